import PyProof.Rows.All
import Wide.All
import OpenK.AllK
import Wide.FinOn
import PyProof.EqAt
import PyProof.EqKinds
import PyProof.TupleCall
import KE.KFromBytes
import HandS.Base
import HandS.Call
import HandS.List
import HandS.Ends
import HandS.Exc
import HandS.ExcInit
import HandS.ForMost
import HandS.ForExc
import HandS.ExcIs
import HandS.ExcField
import HandS.IsInst
import HandS.TryMany
import KE.KTryMore
import KE.KExcIs
import HandS.ExcValue
import HandS.HeadHook4
import HandS.Head0
import HandS.Head1
import HandS.Head2
import HandS.HeadEnd
import HandS.Defaults
import HandS.HotCalls
import HandS.ExcInitHot
import HandS.Zip
import HandS.Walk
import HandS.More
import HandS.Iter
import HandS.WordsDict
import PySem.Challenge.RW_steadynets_k00_errors_made
set_option Elab.async false
set_option linter.all false
set_option maxRecDepth 100000
set_option maxHeartbeats 4000000
namespace EV
open PySem PySem.Spec PySem.W PySem.Calls PyProof.Rows PySem.HandSPX Builtin Builtin.ObjectAttr
section
variable {M : Model} {A : Around} {E : Value → Shared → Prop} {h : Heap} {g : Array GenState} {d : Drawn} {t : Nat} {os : OsState}
variable {nm q : Str} {C N : Addr} {bs bm bmB : List Value} {hdct : Bool} {sn : List Str} {sub : List Value} {ab : Bool} {col : Option Bool} {dd : Option Addr} {k0 k1 k2 k3 k5 : Option Value} {B newId initId : String}
theorem chkKw (F : ExcBaseFacts B newId initId bmB) (hT : ∀ Y : String, bm.contains (.type Y) = bmB.contains (.type Y)) {f : Str} {v : Value} {Q : Unit → Shared → Prop}
    (hC : h.get? C = some (excClassObj nm q C N bs bm hdct sn sub ab col dd k0 k1 k2 k3 k5 newId)) (z : Q () ⟨h, g, d, t, os⟩) :
    wpAny M A (checkBuiltinCall newId ⟨[.ref C], [(f, v)]⟩) Q E ⟨h, g, d, t, os⟩ := by
  have c1 : (Value.ref C :: bm).contains (.type B) = true := by
    rw [List.contains_cons, hT, F.hasB, Bool.or_true]
  have c2 := F.noStar
  simp only [checkBuiltinCall, F.newKind, F.newSplit, F.newRow]
  repeat (first
    | refine wpAny_loadPart_at hC ?_
    | (refine wpAny_isSubtype_exc hC ?_
       rw [c1])
    | refine wpAny_staticBase_exc hC ?_
    | refine wpAny_madeBy_exc hC ?_
    | simp only [bne_self_eq_false, Bool.false_eq_true, if_false]
    | wp_step)
  exact z
end
section
variable {prog : Program} {w : World} {A : Around} {E : Value → Shared → Prop} {R : Result → Shared → Prop} {h : Heap} {g : Array GenState} {d : Drawn} {t : Nat} {os : OsState}
variable {nm q : Str} {C N : Addr} {bs bm bmB : List Value} {hdct : Bool} {sn : List Str} {sub : List Value} {ab : Bool} {col : Option Bool} {dd : Option Addr} {k0 k1 k2 k3 k5 : Option Value} {B newId initId : String}
theorem newKw (F : ExcBaseFacts B newId initId bmB) (hT : ∀ Y : String, bm.contains (.type Y) = bmB.contains (.type Y)) {f : Str} {v : Value}
    (hC : h.get? C = some (excClassObj nm q C N bs bm hdct sn sub ab col dd k0 k1 k2 k3 k5 newId))
    (z : R (.ok (.ret (.ref (h.objs.size + 1)))) ⟨(h.push (kdv_tup [])).push (excO C h.objs.size), g, d, t, os⟩) :
    codeAny (model prog w) A (.builtin newId ⟨[.ref C], [(f, v)]⟩) R ⟨h, g, d, t, os⟩ := by
  have c0 := F.ends
  have c1 : (Value.ref C :: bm).contains (.type B) = true := by
    rw [List.contains_cons, hT, F.hasB, Bool.or_true]
  have c2 : (Value.ref C :: bm).contains (.type "AttributeError") = false := by
    rw [List.contains_cons, hT, F.noAttr]
    rfl
  have c3 : (Value.ref C :: bm).contains (.type "NameError") = false := by
    rw [List.contains_cons, hT, F.noName]
    rfl
  refine codeAny_builtinAt F.entry ?_
  unfold Builtin.«BaseException.__new__»
  refine PySem.wpAt_bind ?_
  show PySem.wpAt _ _ _ (stack >>= _) _ _ _
  refine PySem.wpAt_bind (PySem.wpAt_stack fun p below => PySem.wpAt_of_wpAny ?_)
  wp_walk
  refine PySem.wpAt_of_wpAny ?_
  rw [F.owner]
  repeat (first
    | with_reducible refine wpAny_madeHere_exc F.canon hC ?_
    | with_reducible refine wpAny_loadPart_at hC ?_
    | (with_reducible refine wpAny_isSubtype_exc hC ?_
       first | rw [c1] | rw [c2] | rw [c3])
    | wp_step)
  show R _ _
  rw [Heap.size_push]
  exact z
theorem typeCallKw (F : ExcBaseFacts B newId initId bmB) (hT : ∀ Y : String, bm.contains (.type Y) = bmB.contains (.type Y)) {f : Str} {v : Value} {fI : Addr} {Q : Fin → Shared → Prop}
    (hC : h.get? C = some (excClassObj nm q C N bs bm hdct sn sub ab col dd k0 k1 k2 k3 k5 newId))
    (hi : Looks (model prog w) h (typeLookup (.ref C) "__init__") (some (.ref fI)))
    (hb : ∀ me, Looks (model prog w) h (bindSpecial (.ref fI) me) (.ref fI, [me]))
    (z : codeAny (model prog w) A (.call (.ref fI) ⟨[.ref (h.objs.size + 1)], [(f, v)]⟩)
      (fun r s' => match r with
        | .ok (.ret u) => u = .none ∧ Q (.done (.ret (.ref (h.objs.size + 1)))) s'
        | .ok _ => False
        | .error e => E e s')
      ⟨(h.push (kdv_tup [])).push (excO C h.objs.size), g, d, t, os⟩) :
    wpAny (model prog w) A (Builtin.«type.__call__» ⟨[.ref C], [(f, v)]⟩) Q E ⟨h, g, d, t, os⟩ := by
  repeat (first
    | with_reducible refine wpAny_loadPart_at hC ?_
    | with_reducible refine wpAny_madeBy_exc hC ?_
    | wp_step)
  refine codeAny_call_builtin_code (Code.quiet_builtin _ F.quiet) (chkKw F hT hC ?_)
  refine newKw F hT hC ?_
  show wpAny _ _ _ _ _ _
  have k : ∀ b o, h.get? b = some o → ((h.push (kdv_tup [])).push (excO C h.objs.size)).get? b = some o := fun b o e =>
    Heap.get?_push_of_some _ (Heap.get?_push_of_some _ e)
  have c1 := k _ _ hC
  have c2 : ((h.push (kdv_tup [])).push (excO C h.objs.size)).get? (h.objs.size + 1) = some (excO C h.objs.size) := by
    heap_get
  have c3 : (Value.ref C :: bm).contains (.ref C) = true := by
    simp
  have i1 := hi.keeps k
  have b1 := (hb (.ref (h.objs.size + 1))).keeps k
  unfold isInstance
  repeat (first
    | with_reducible refine wpAny_loadPart_at c2 ?_
    | (with_reducible refine wpAny_isSubtype_exc c1 ?_
       rw [c3])
    | wp_step)
  show wpAny _ _ (typeLookup (.ref C) _) _ _ _
  refine i1.at ?_
  refine wpAny_holding (wpAny_bind (b1.at ?_))
  refine wpAny_bind (wpAny_call (codeAny_mono z fun r s' y => ?_))
  cases r with
  | error e => exact y
  | ok fl =>
    cases fl with
    | ret u =>
      obtain ⟨rfl, y⟩ := y
      wp_walk
      try exact y
    | next => exact False.elim y
    | brk => exact False.elim y
    | cont => exact False.elim y
theorem callKw (F : ExcBaseFacts B newId initId bmB) (hT : ∀ Y : String, bm.contains (.type Y) = bmB.contains (.type Y)) {f : Str} {v : Value} {fI : Addr}
    (hC : h.get? C = some (excClassObj nm q C N bs bm hdct sn sub ab col dd k0 k1 k2 k3 k5 newId))
    (hi : Looks (model prog w) h (typeLookup (.ref C) "__init__") (some (.ref fI)))
    (hb : ∀ me, Looks (model prog w) h (bindSpecial (.ref fI) me) (.ref fI, [me]))
    (z : codeAny (model prog w) (A.under (.builtin "type.__call__" ⟨[.ref C], [(f, v)]⟩)) (.call (.ref fI) ⟨[.ref (h.objs.size + 1)], [(f, v)]⟩)
      (InitBack (h.objs.size + 1) R) ⟨(h.push (kdv_tup [])).push (excO C h.objs.size), g, d, t, os⟩) :
    codeAny (model prog w) A (.call (.ref C) ⟨[], [(f, v)]⟩) R ⟨h, g, d, t, os⟩ := by
  have f1 := tc_lookup
  have f2 := tc_bind (.ref C)
  have f3 : (⟨h, g, d, t, os⟩ : Shared).TypeIs (.ref C) "type" := ⟨_, hC, rfl⟩
  refine codeAny_of_tree ?_
  show wpAny _ _ (callAny (.ref C) _) _ _ _
  repeat (any_goals (first
    | assumption
    | with_reducible refine wpAny_loadPart_at hC ?_
    | wp_step))
  refine ⟨rfl, ?_⟩
  refine codeAny_call_builtin_at (Code.quiet_builtin _ (by decide +kernel)) entry_typeCall
    (wpAny_check_type_call_sub hC (typeCallKw F hT hC hi hb ?_))
  refine codeAny_mono z fun r s' y => ?_
  rcases r with e | (u | _ | _ | _) <;> exact y
end
end EV

set_option Elab.async false
set_option linter.all false
set_option maxRecDepth 100000
set_option maxHeartbeats 4000000
namespace EV
open PySem PySem.Spec PyProof.Rows L2
/-! ### a class of errors, its own __init__ -/
/-- __init__(self, f): self.f = f -/
def spI (C : Addr) (f : Str) : Sp := fun vs H Q _ => ∃ (a : Addr) (v : V), vs = [.ref a, v] ∧ H a = some (exo a C none) ∧
  ∀ d, H d = none → d ≠ a → Q .non (upd (upd H d (exd d [(f, v)])) a (exo a C (some d)))
/-- an error of the class C at a, its dict at d, its field -/
structure Er (H : Hp) (a C d : Addr) (f : Str) (v : V) : Prop where
  ob : H a = some (exo a C (some d))
  dc : H d = some (exd d [(f, v)])
/-- what a call of C makes of v -/
def rNew (C : Addr) (f : Str) (v : V) (H : Hp) (Q : VK) : Prop := ∀ a d, H a = none → H d = none → d ≠ a → Q (.ref a) (upd (upd H d (exd d [(f, v)])) a (exo a C (some d)))
def tNew (C : Addr) (f : Str) (te : TE) : TE := fun σ H Q => te σ H fun v H1 => rNew C f v H1 Q
theorem upd3 {H : Hp} {a d : Addr} {o o' u : HO} : upd (upd (upd H a o) d u) a o' = upd (upd H d u) a o' := by
  funext b
  by_cases e : b = a
  · rw [e, upd_same, upd_same]
  · rw [upd_ne e, upd_ne e]
    by_cases z : b = d
    · rw [z, upd_same, upd_same]
    · rw [upd_ne z, upd_ne z, upd_ne e]
section
variable {X : Cx} {CX : CXT} {C fI : Addr} {f x : Str} {k : Nat} {fd : FuncData} {e : Expr} {te : TE} {p pos kp : Pos} {E : XK}
/-- what the written part tells of such a class -/
structure ErrC (K : PySem.W.Frag) (C fI : Addr) (f : Str) : Prop where
  oex : OexC K C
  iC : PySem.W.findIn K (.ref C) "__init__" = some (some (.ref fI))
  tI : PySem.W.typeIn K (.ref fI) = some (.type "function")
  xf : XfC K C
  no : PySem.W.findIn K (.ref C) f = some none
theorem fresh2 {H : Hp} {a d : Addr} {o : HO} (h : upd H a o d = none) : d ≠ a ∧ H d = none := by
  by_cases e : d = a
  · rw [e, upd_same] at h
    cases h
  · rw [upd_ne e] at h
    exact ⟨e, h⟩
theorem run_new {pins : List (Addr × Obj)} {σ : L2.St} {H : Hp} {s : Shared} {Q : VK} {u : Value} {v : V} (T : ErrC X.K C fI f) (G : FnOk X.prog X.w X.K X.mg X.base CX k fI fd ["self", f] (spI C f)) (hr : Room (k + 1) X.A)
    (hb : ∀ (s : Shared) (u v : Value), X.K.In s.heap → BindsTo s fd ⟨[u, v], []⟩ [("self", u), (f, v)]) (hx : Passes CX X E)
    (I : Inv X pins σ H s) (r : RelV v u) (h : rNew C f v H Q) : wpAny (model X.prog X.w) X.A (call (.ref C) [u]) (EP X pins σ Q) X.xe s := by
  obtain ⟨nm, q, N, bs, bm, sn, sub, ab, col, dd, k0, k1, k2, k3, k5, hC, hbm⟩ := T.oex.cls
  obtain ⟨hp, g, dr, tk, os⟩ := s
  have sz : hp.objs.size ≤ hp.objs.size + 1 := Nat.le_succ _
  have n0 : H (hp.objs.size + 1) = none := I.hok.fresh sz
  have k2 : ∀ b o, hp.get? b = some o → ((hp.push (PySem.W.kdv_tup [u])).push (PySem.HandSPX.excO C hp.objs.size)).get? b = some o := fun b o z =>
    Heap.get?_push_of_some _ (Heap.get?_push_of_some _ z)
  have g2 : ((hp.push (PySem.W.kdv_tup [u])).push (PySem.HandSPX.excO C hp.objs.size)).get? (hp.objs.size + 1) = some (PySem.HandSPX.excO C hp.objs.size) := by
    heap_get
  have I2 := I.laid (t' := tk) (a := hp.objs.size + 1) (o := exo (hp.objs.size + 1) C none) k2 sz (exo_ok g2)
  have hq : spI C f [.ref (hp.objs.size + 1), v] (upd H (hp.objs.size + 1) (exo (hp.objs.size + 1) C none)) (fun z H2 => z = .non ∧ Q (.ref (hp.objs.size + 1)) H2) E :=
    ⟨_, v, rfl, upd_same, fun d h1 h2 => ⟨rfl, by
      rw [upd3]
      exact h _ d n0 (fresh2 h1).2 h2⟩⟩
  refine wpAny_call (PySem.HandSPX.call_own F.excBase_ValueError (fun Y => PySem.HandSPX.refsVE_contains Y bm hbm) (I.kIn _ _ hC)
    (PySem.W.looks_findIn I.kIn T.iC) (fun me => PySem.W.bind_fn I.kIn me T.tI) (by show 1 ≤ sizeLine; rw [sizeLine_eq]; decide)
    (codeAny_mono (G.run _ X.stack _ _ ⟨[.ref (hp.objs.size + 1), u], []⟩ [.ref (hp.objs.size + 1), u] [.ref (hp.objs.size + 1), v] _ E (hr.make C [u] []) (I2.env0.make C [u] [])
      (hb _ _ _ I2.kIn) (.cons rfl (.cons r .nil)) hq) fun z s' y => ?_))
  cases z with
  | error er => exact hx pins σ _ _ er s' I2 y
  | ok fl =>
    cases fl with
    | ret w' =>
      obtain ⟨_, H3, I3, rv, ev, q3⟩ := I2.after y
      subst ev
      exact ⟨rv, ⟨V.ref (hp.objs.size + 1), H3, I3, rfl, q3⟩⟩
    | next => exact False.elim y
    | brk => exact False.elim y
    | cont => exact False.elim y
theorem run_newK {pins : List (Addr × Obj)} {σ : L2.St} {H : Hp} {s : Shared} {Q : VK} {u : Value} {v : V} (T : ErrC X.K C fI f) (G : FnOk X.prog X.w X.K X.mg X.base CX k fI fd ["self", f] (spI C f)) (hr : Room (k + 1) X.A)
    (hb : ∀ (s : Shared) (u v : Value), X.K.In s.heap → BindsTo s fd ⟨[u], [(f, v)]⟩ [("self", u), (f, v)]) (hx : Passes CX X E)
    (I : Inv X pins σ H s) (r : RelV v u) (h : rNew C f v H Q) : wpAny (model X.prog X.w) X.A (call (.ref C) [] [(f, u)]) (EP X pins σ Q) X.xe s := by
  obtain ⟨nm, q, N, bs, bm, sn, sub, ab, col, dd, k0, k1, k2, k3, k5, hC, hbm⟩ := T.oex.cls
  obtain ⟨hp, g, dr, tk, os⟩ := s
  have sz : hp.objs.size ≤ hp.objs.size + 1 := Nat.le_succ _
  have n0 : H (hp.objs.size + 1) = none := I.hok.fresh sz
  have k2 : ∀ b o, hp.get? b = some o → ((hp.push (PySem.W.kdv_tup [])).push (PySem.HandSPX.excO C hp.objs.size)).get? b = some o := fun b o z =>
    Heap.get?_push_of_some _ (Heap.get?_push_of_some _ z)
  have g2 : ((hp.push (PySem.W.kdv_tup [])).push (PySem.HandSPX.excO C hp.objs.size)).get? (hp.objs.size + 1) = some (PySem.HandSPX.excO C hp.objs.size) := by
    heap_get
  have I2 := I.laid (t' := tk) (a := hp.objs.size + 1) (o := exo (hp.objs.size + 1) C none) k2 sz (exo_ok g2)
  have hq : spI C f [.ref (hp.objs.size + 1), v] (upd H (hp.objs.size + 1) (exo (hp.objs.size + 1) C none)) (fun z H2 => z = .non ∧ Q (.ref (hp.objs.size + 1)) H2) E :=
    ⟨_, v, rfl, upd_same, fun d h1 h2 => ⟨rfl, by
      rw [upd3]
      exact h _ d n0 (fresh2 h1).2 h2⟩⟩
  refine wpAny_call (callKw F.excBase_ValueError (fun Y => PySem.HandSPX.refsVE_contains Y bm hbm) (I.kIn _ _ hC)
    (PySem.W.looks_findIn I.kIn T.iC) (fun me => PySem.W.bind_fn I.kIn me T.tI)
    (codeAny_mono (G.run _ X.stack _ _ ⟨[.ref (hp.objs.size + 1)], [(f, u)]⟩ [.ref (hp.objs.size + 1), u] [.ref (hp.objs.size + 1), v] _ E (hr.make C [] [(f, u)]) (I2.env0.make C [] [(f, u)])
      (hb _ _ _ I2.kIn) (.cons rfl (.cons r .nil)) hq) fun z s' y => ?_))
  cases z with
  | error er => exact hx pins σ _ _ er s' I2 y
  | ok fl =>
    cases fl with
    | ret w' =>
      obtain ⟨_, H3, I3, rv, ev, q3⟩ := I2.after y
      subst ev
      exact ⟨rv, ⟨V.ref (hp.objs.size + 1), H3, I3, rfl, q3⟩⟩
    | next => exact False.elim y
    | brk => exact False.elim y
    | cont => exact False.elim y
/-- C(e) -/
theorem pe_new (T : ErrC X.K C fI f) (F : FnOk X.prog X.w X.K X.mg X.base CX k fI fd ["self", f] (spI C f)) (hr : Room (k + 1) X.A)
    (hb : ∀ (s : Shared) (u v : Value), X.K.In s.heap → BindsTo s fd ⟨[u, v], []⟩ [("self", u), (f, v)]) (hx : Passes CX X E) (hg : Gl X x) (hm : X.mg x = some (.ref C)) (he : PE X e te)
    (hdb : (x == ("__debug__" : Str)) = false := by decide) (hs : starEach [e] X.env = (false, eval e X.env) :: starEach [] X.env := by rfl) (hpl : (backTo pos (starEach [] X.env)).any (·.1) = false := by rfl) :
    PE X (.Call (.Name x p) [e] [] pos) (tNew C f te) := by
  refine ⟨fun pins s σ H Q I h => ?_⟩
  refine wpAny_Call_Name_kw (ld_glob I hg hm ?_ hdb)
  refine PySem.W.callWith_K (h₀ := X.base) I.ok.mod.kin T.oex.kC ?_ hs hpl
  rw [hs]
  show wpAny _ _ (spliced ((false, eval e X.env) :: backTo pos (starEach [] X.env))) _ _ s
  refine Calls.spliced_cons (thn (he.run pins s σ H _ I h) fun u s1 ⟨v, H1, I1, r1, q1⟩ => ?_)
  exact Calls.spliced_nil ⟨I1.kIn, run_new T F hr hb hx I1 r1 q1⟩
/-- C(f = e) -/
theorem pe_newK (T : ErrC X.K C fI f) (F : FnOk X.prog X.w X.K X.mg X.base CX k fI fd ["self", f] (spI C f)) (hr : Room (k + 1) X.A)
    (hb : ∀ (s : Shared) (u v : Value), X.K.In s.heap → BindsTo s fd ⟨[u], [(f, v)]⟩ [("self", u), (f, v)]) (hx : Passes CX X E) (hg : Gl X x) (hm : X.mg x = some (.ref C)) (he : PE X e te)
    (hall : (backToKw pos (keywordEach [⟨some f, e, kp⟩] X.env)).all (·.1.isSome) = true := by rfl) (hks : (backToKw pos (keywordEach [⟨some f, e, kp⟩] X.env)).filterMap (·.1) = [f] := by rfl) (hdb : (x == ("__debug__" : Str)) = false := by decide)
    (hpl : ((backTo pos (starEach [] X.env)).any (·.1) || (backToKw pos (keywordEach [⟨some f, e, kp⟩] X.env)).any (·.1.isNone)) = false := by rfl) :
    PE X (.Call (.Name x p) [] [⟨some f, e, kp⟩] pos) (tNew C f te) := by
  have hk : PK X [⟨some f, e, kp⟩] (tCons te tNil) := pk_cons he pk_nil
  refine ⟨fun pins s σ H Q I h => ?_⟩
  refine wpAny_Call_Name_kw (ld_glob I hg hm ?_ hdb)
  refine PySem.W.callWith_KW0 (h₀ := X.base) I.ok.mod.kin T.oex.kC hall ?_ hpl
  refine thn (hk.run pos pins s σ H (fun vs H1 => match vs with
    | [v] => rNew C f v H1 Q
    | _ => False) I h) fun us s1 ⟨vs, H1, I1, r1, q1⟩ => ⟨I1.kIn, ?_⟩
  rw [hks]
  cases r1 with
  | nil => exact q1.elim
  | cons r rr =>
    cases rr with
    | nil => exact run_newK T F hr hb hx I1 r q1
    | cons _ _ => exact q1.elim
end
end EV

set_option Elab.async false
set_option linter.all false
set_option maxRecDepth 100000
set_option maxHeartbeats 4000000
namespace EV
open PySem PySem.Spec PyProof.Rows L2
/-- an error of the class at C stands at a: with a field, or a plain one -/
def IsEr (H : Hp) (a C : Addr) : Prop := H a = some (exo a C none) ∨ ∃ d fs, H a = some (exo a C (some d)) ∧ H d = some (exd d fs)
section
variable {X : Cx}
theorem inst_of {pins : List (Addr × Obj)} {σ : L2.St} {H : Hp} {s : Shared} {a C : Addr} (I : Inv X pins σ H s) (h : IsEr H a C) : ∃ ox od, PySem.W.InstAt s.heap a ox C od := by
  rcases h with h | ⟨d, fs, h, hd⟩
  · obtain ⟨t, e⟩ := exo_at I.hok h
    exact ⟨_, none, e, rfl, rfl, True.intro⟩
  · obtain ⟨t, e⟩ := exo_at I.hok h
    obtain ⟨mA, hn, _⟩ := exd_at I.hok hd
    obtain ⟨od, ho, _⟩ := lookIn_ns hn
    exact ⟨_, some od, e, rfl, rfl, ho⟩
theorem kit_er {pins : List (Addr × Obj)} {σ : L2.St} {H : Hp} {s : Shared} {a C : Addr} (T : ExcC X.K C) (I : Inv X pins σ H s) (h : IsEr H a C) :
    ∃ P : Heap → Prop, PySem.W.KitX X.K (.ref a) (.ref C) P ∧ P s.heap := by
  obtain ⟨ox, od, J⟩ := inst_of I h
  have c : (PySem.W.clsIn X.K C).isSome = true := by
    obtain ⟨cd, e, _⟩ := PySem.W.any_some T.hd
    rw [e] <;> rfl
  exact ⟨_, PySem.W.kitx_exc (ox := ox) (od := od) c T.hg T.hk T.hs T.ha T.hn T.ht T.hm, J⟩
/-- isinstance(e, D) -/
def rIsEr (K : PySem.W.Frag) : List V → Hp → VK → Prop := fun xs H Q => ∃ (a C : Addr) (c : V) (u : Value) (b : Bool), xs = [.ref a, c] ∧ ClsV c u ∧ ExcC K C ∧ IsEr H a C ∧ PySem.W.kitOne K (.ref C) u = some b ∧ Q (.bl b) H
theorem call_isEr : CallR X (.builtin "isinstance") (rIsEr X.K) := by
  intro pins s σ H xs us Q I r h
  obtain ⟨a, C, c, u, b, rfl, k, T, ty, e, q⟩ := h
  obtain ⟨u1, u2, rfl, r1, r2⟩ := vals2 r
  have e2 := k.eq r2
  subst e2
  obtain rfl : u1 = Value.ref a := r1
  obtain ⟨P, Z, p⟩ := kit_er T I ty
  exact PySem.W.kia_one Z I.kIn p e (fun z => nomatch z) fun tk => ⟨.bl b, H, I.tok tk, rfl, q⟩
/-- isinstance(e, (D, ..)) -/
def rIsErT (K : PySem.W.Frag) : List V → Hp → VK → Prop := fun xs H Q => ∃ (a C tp : Addr) (cs : List V) (us : List Value) (b : Bool), xs = [.ref a, .ref tp] ∧ H tp = some (.tup cs) ∧ Paired ClsV cs us ∧ ExcC K C ∧ IsEr H a C ∧
  PySem.W.kitAny K (.ref C) us = some b ∧ Q (.bl b) H
theorem call_isErT : CallR X (.builtin "isinstance") (rIsErT X.K) := by
  intro pins s σ H xs us Q I r h
  obtain ⟨a, C, tp, cs, ws, b, rfl, hT, k, T, ty, e, q⟩ := h
  obtain ⟨u1, u2, rfl, r1, r2⟩ := vals2 r
  obtain rfl : u1 = Value.ref a := r1
  cases (show u2 = Value.ref tp from r2)
  obtain ⟨P, Z, p⟩ := kit_er T I ty
  obtain ⟨_, its, rv, o, h1, h2, n, h3⟩ := (show ObjOk X.prog X.w H s.heap tp (.tup cs) from I.hok tp _ hT)
  have e3 := ClsV.all k rv
  subst e3
  obtain ⟨oc, od, dt, sl⟩ := o
  simp only at h2 h3
  subst h2 h3
  exact PySem.W.kia_tup Z I.kIn p h1 e (fun z => nomatch z) fun tk => ⟨.bl b, H, I.tok tk, rfl, q⟩
/-- e.f -/
def tErF (K : PySem.W.Frag) (f : Str) (te : TE) : TE := fun σ H Q => te σ H fun x H1 => ∃ (a C d : Addr) (fs : List (Str × V)) (v : V), x = .ref a ∧ XfC K C ∧ PySem.W.findIn K (.ref C) f = some none ∧
  H1 a = some (exo a C (some d)) ∧ H1 d = some (exd d fs) ∧ fs.lookup f = some v ∧ Q v H1
theorem pe_erF {e : Expr} {te : TE} {pos : Pos} {n : Str} (he : PE X e te) (hb : attributeBase e n X.env (eval e X.env) = eval e X.env := by rfl) : PE X (.Attribute e n pos) (tErF X.K n te) := by
  refine ⟨fun pins s σ H Q I h => ?_⟩
  refine attr_of hb (thn (he.run pins s σ H _ I h) fun u s1 hh => ?_)
  obtain ⟨x, H1, I1, rx, a, C, d, fs, v, ex, T, hno, ea, ed, l, q⟩ := hh
  subst ex
  obtain rfl : u = Value.ref a := rx
  obtain ⟨t, e⟩ := exo_at I1.hok ea
  obtain ⟨mA, hns, hr⟩ := exd_at I1.hok ed
  obtain ⟨od, ho, hl⟩ := lookIn_ns hns
  obtain ⟨u, hu, ru⟩ := RelO.some_of (v := v) (o := mA n) (by rw [← l]; exact hr n)
  have J : PySem.W.InstAt s1.heap a _ C (some od) := ⟨e, rfl, rfl, ho⟩
  exact HandSPX.exc_get I1.kIn J T.ga T.gg T.exC (PySem.W.findObj_own T.hdC hno rfl (by rw [hl, hu])) (handed_of ru) ⟨v, H1, I1.tok _, ru, q⟩
/-- C(), C an own class over ValueError without own __init__ -/
theorem pe_new0 {C : Addr} {bmB : List Value} {B newId initId : String} {x : Str} {p pos : Pos} (G : ExcBaseFacts B newId initId bmB) (q : PySem.W.excIn X.K C bmB newId = true) (gC : X.mg x = some (.ref C)) (kC : PySem.W.keepIn X.K (.ref C) = true) (hg : Gl X x)
    (hdb : (x == ("__debug__" : Str)) = false := by decide) :
    PE X (.Call (.Name x p) [] [] pos) (fun σ H Q => ∀ a, H a = none → Q (.ref a) (upd H a (exo a C none))) := by
  refine ⟨fun pins s σ H Q I h => ?_⟩
  refine wpAny_Call_Name_kw (ld_glob I hg gC ?_ hdb)
  refine PySem.W.callWith_K0 I.kIn kC ?_
  show wpAny _ _ (call (.ref C) []) _ _ _
  obtain ⟨bm, N, nm, qn, bs, hdct, sn, sub, ab, col, dd, k0, k1, k2, k3, k5, mN, hC, hN, hni, T⟩ := exc_obj I.kIn q
  refine wpAny_call_exc_subT G T hC hN hni (fun h' a hm => ?_) (by show 0 ≤ sizeLine; exact Nat.zero_le _)
  have hn : H a = none := I.hok.gone hm.new
  obtain ⟨t, ht, _, _⟩ := hm.there
  exact ⟨.ref a, upd H a (exo a C none), I.laidN hm.keeps hm.new hn (exo_ok ht), rfl, h a hn⟩
end
end EV

set_option Elab.async false
set_option linter.all false
set_option maxRecDepth 100000
set_option maxHeartbeats 4000000
namespace EV
open PySem PySem.Spec PyProof.Rows L2 He
/-! ### what the head tells of the classes -/
abbrev pE : PySem.Str := "PanelError"
abbrev veT : List Value := [.type "ValueError", .type "Exception", .type "BaseException", .type "object"]
def mroOf (K : PySem.W.Frag) (x : PySem.Str) : List Value := if x = pE then .ref (ga K pE) :: veT else .ref (ga K x) :: .ref (ga K pE) :: veT
/-- the class's object: its form, its mro -/
def objB (K : PySem.W.Frag) (x : PySem.Str) : Bool := match K.lookup (ga K x) with
  | some ⟨.type t, _, .cls cd, sl⟩ => decide (t = "type") && (decide (cd.mro = mroOf K x) && (cd.hasDict && (!cd.hasDel && (match sl.toList with
    | [_, _, _, _, some (.builtin n), _] => decide (n = "ValueError.__new__")
    | _ => false))))
  | _ => false
def excB (K : PySem.W.Frag) (x : PySem.Str) : Bool := objB K x && (decide (PySem.W.findIn K (.ref (ga K x)) "__setattr__" = some (some (.builtin "object.__setattr__"))) &&
  (PySem.W.keepIn K (.ref (ga K x)) && (decide (PySem.W.findIn K (.ref (ga K x)) "__getattribute__" = some (some (.builtin "BaseException.__getattribute__"))) &&
  (decide (PySem.W.findIn K (.ref (ga K x)) "__getattr__" = some none) && (decide (PySem.W.findIn K (.ref (ga K x)) "__class__" = some (some (.builtin "object.__class__"))) && eqO (PySem.W.nsIn K mainGlobals x) (some (some (.ref (ga K x)))))))))
def iniB (K : PySem.W.Frag) (p : PySem.Str × PySem.Str) : Bool := decide (PySem.W.findIn K (.ref (ga K p.1)) "__init__" = some (some (.ref (ma K (ga K p.1) "__init__")))) &&
  (decide (PySem.W.typeIn K (.ref (ma K (ga K p.1) "__init__")) = some (.type "function")) && decide (PySem.W.findIn K (.ref (ga K p.1)) p.2 = some none))
def classB (K : PySem.W.Frag) : Bool := decide (PySem.W.specialIn K (.builtin "object.__class__") "__get__" = some (some (.builtin "getset_descriptor.__get__"))) && decide (PySem.W.takesIn K (.builtin "object.__class__") = some true)
/-- all of it: cs the classes with an __init__, their fields; ps the others (PanelError among them) -/
def exAll (cs : List (PySem.Str × PySem.Str)) (ps : List PySem.Str) (K : PySem.W.Frag) : Bool :=
  classB K && (ps.contains pE && ((cs.all fun p => excB K p.1 && iniB K p) && ((ps.all fun x => excB K x) && (decide ((cs.map (·.1) ++ ps).map (ga K)).Nodup && (ps.all fun x => PySem.W.excIn K (ga K x) veT "ValueError.__new__")))))
structure Says (cs : List (PySem.Str × PySem.Str)) (ps : List PySem.Str) (K : PySem.W.Frag) : Prop where
  ok : exAll cs ps K = true
theorem bA {a b : Bool} (h : (a && b) = true) : a = true ∧ b = true := Bool.and_eq_true_iff.mp h
section
variable {K : PySem.W.Frag} {x y : PySem.Str}
theorem obj_ok (h : objB K x = true) : ∃ nm q N bs bm sn sub ab col dd k0 k1 k2 k3 k5, K.lookup (ga K x) = some (excClassObj nm q (ga K x) N bs bm true sn sub ab col dd k0 k1 k2 k3 k5 "ValueError.__new__") ∧ .ref (ga K x) :: bm = mroOf K x ∧ PySem.HandSPX.refsVE bm = true := by
  unfold objB at h
  cases q : K.lookup (ga K x) with
  | none =>
    rw [q] at h
    cases h
  | some o =>
    obtain ⟨oc, od, dt, sl⟩ := o
    rw [q] at h
    cases oc with
    | type t =>
      cases dt with
      | cls cd =>
        obtain ⟨h1, g1⟩ := bA h
        obtain ⟨h2, g2⟩ := bA g1
        obtain ⟨h3, g3⟩ := bA g2
        obtain ⟨h4, g4⟩ := bA g3
        clear h g1 g2 g3
        have e1 : t = "type" := of_decide_eq_true h1
        have e2 : cd.mro = mroOf K x := of_decide_eq_true h2
        obtain ⟨nm, bs, mro, ns, qn, hd, sn, sub, ab, col, del⟩ := cd
        dsimp only at e2 h3 h4
        have e4 : del = false := by
          cases del with
          | false => rfl
          | true => cases h4
        have e3 : hd = true := h3
        split at g4
        · rename_i k0 k1 k2 k3 n k5 hs
          have e5 : n = "ValueError.__new__" := of_decide_eq_true g4
          have e6 : sl = #[k0, k1, k2, k3, some (.builtin n), k5] := by
            obtain ⟨l⟩ := sl
            simp only at hs
            rw [hs]
          subst e1 e2 e3 e4 e5 e6
          unfold mroOf
          by_cases z : x = pE
          · subst z
            rw [if_pos rfl]
            exact ⟨nm, qn, ns, bs, veT, sn, sub, ab, col, od, k0, k1, k2, k3, k5, rfl, rfl, by decide +kernel⟩
          · rw [if_neg z]
            exact ⟨nm, qn, ns, bs, .ref (ga K pE) :: veT, sn, sub, ab, col, od, k0, k1, k2, k3, k5, rfl, rfl, by show PySem.HandSPX.refsVE veT = true; decide +kernel⟩
        · cases g4
      | _ => cases h
    | _ => cases dt <;> cases h
theorem cls_of_obj (h : objB K x = true) : ∃ cd, PySem.W.clsIn K (ga K x) = some cd ∧ cd.mro = mroOf K x ∧ cd.hasDict = true := by
  obtain ⟨nm, q, N, bs, bm, sn, sub, ab, col, dd, k0, k1, k2, k3, k5, e, em, _⟩ := obj_ok h
  refine ⟨{ name := nm, bases := bs, mro := .ref (ga K x) :: bm, ns := N, qualname := q, hasDict := true, slotNames := sn, subclasses := sub, abstract := ab, collection := col, hasDel := false }, ?_, em, rfl⟩
  unfold PySem.W.clsIn
  rw [e] <;> rfl
theorem mro_of (h : objB K x = true) (u : Value) : PySem.W.mroIn K (ga K x) u = some ((mroOf K x).contains u) := by
  obtain ⟨cd, e, em, _⟩ := cls_of_obj h
  unfold PySem.W.mroIn
  rw [e, Option.bind_some, em]
  have z : (mroOf K x).isEmpty = false := by
    unfold mroOf
    split <;> rfl
  rw [z] <;> rfl
theorem type_of_obj (h : objB K x = true) : PySem.W.typeIn K (.ref (ga K x)) = some (.type "type") := by
  obtain ⟨nm, q, N, bs, bm, sn, sub, ab, col, dd, k0, k1, k2, k3, k5, e, _⟩ := obj_ok h
  show (K.lookup (ga K x)).map (·.cls) = _
  rw [e] <;> rfl
theorem hasD_of (h : objB K x = true) : PySem.W.hasDictIn K (ga K x) = true := by
  obtain ⟨cd, e, _, hd⟩ := cls_of_obj h
  unfold PySem.W.hasDictIn
  rw [e]
  exact hd
theorem sub_be (h : objB K x = true) : PySem.W.subIn K (.ref (ga K x)) (.type "BaseException") = some true := by
  show PySem.W.mroIn K (ga K x) (.type "BaseException") = some true
  rw [mro_of h]
  unfold mroOf
  split <;> rfl
theorem excC_of (c : classB K = true) (h : excB K x = true) : ExcC K (ga K x) := by
  obtain ⟨c1, c2⟩ := bA c
  obtain ⟨h0, h⟩ := bA h
  obtain ⟨h1, h⟩ := bA h
  obtain ⟨h2, h⟩ := bA h
  obtain ⟨h3, h⟩ := bA h
  obtain ⟨h4, h⟩ := bA h
  obtain ⟨h5, h6⟩ := bA h
  refine ⟨of_decide_eq_true h3, of_decide_eq_true h4, sub_be h0, hasD_of h0, of_decide_eq_true h5, of_decide_eq_true c1, of_decide_eq_true c2, ?_⟩
  rw [mro_of h0]
  unfold mroOf
  split <;> rfl
theorem oex_of (h : excB K x = true) : OexC K (ga K x) := by
  obtain ⟨h0, h⟩ := bA h
  obtain ⟨h1, h⟩ := bA h
  obtain ⟨h2, h⟩ := bA h
  obtain ⟨nm, q, N, bs, bm, sn, sub, ab, col, dd, k0, k1, k2, k3, k5, e, _, r⟩ := obj_ok h0
  exact ⟨⟨nm, q, N, bs, bm, sn, sub, ab, col, dd, k0, k1, k2, k3, k5, e, r⟩, of_decide_eq_true h1, sub_be h0, type_of_obj h0, h2⟩
theorem xf_of (h : excB K x = true) : XfC K (ga K x) := by
  obtain ⟨h0, h⟩ := bA h
  obtain ⟨h1, h⟩ := bA h
  obtain ⟨h2, h⟩ := bA h
  obtain ⟨h3, h⟩ := bA h
  obtain ⟨h4, h⟩ := bA h
  exact ⟨of_decide_eq_true h3, of_decide_eq_true h4, sub_be h0, hasD_of h0⟩
theorem err_of {p : PySem.Str × PySem.Str} (h : excB K p.1 = true) (i : iniB K p = true) : ErrC K (ga K p.1) (ma K (ga K p.1) "__init__") p.2 := by
  obtain ⟨i1, i⟩ := bA i
  obtain ⟨i2, i3⟩ := bA i
  exact ⟨oex_of h, of_decide_eq_true i1, of_decide_eq_true i2, xf_of h, of_decide_eq_true i3⟩
theorem glo_of {h : Heap} {mg : PySem.Str → Option Value} (X : K.In h) (G : h.Ns mainGlobals mg) (e : excB K x = true) : mg x = some (.ref (ga K x)) := by
  obtain ⟨_, e⟩ := bA e
  obtain ⟨_, e⟩ := bA e
  obtain ⟨_, e⟩ := bA e
  obtain ⟨_, e⟩ := bA e
  obtain ⟨_, e⟩ := bA e
  obtain ⟨_, e⟩ := bA e
  exact PySem.W.mg_of X G (eqO_ok e)
/-- isinstance by an own class -/
theorem kit_own (hx : excB K x = true) (hy : excB K y = true) (inj : ga K x = ga K y → x = y) (injP : ga K pE = ga K y → y = pE) : PySem.W.kitOne K (.ref (ga K x)) (.ref (ga K y)) = some (decide (x = y) || decide (y = pE)) := by
  have o1 := (bA hx).1
  have o2 := (bA hy).1
  obtain ⟨cd, e, _, _⟩ := cls_of_obj o2
  unfold PySem.W.kitOne
  by_cases z : x = y
  · subst z
    rw [if_pos (by simp), decide_eq_true rfl]
    rfl
  · have n1 : ga K x ≠ ga K y := fun q => z (inj q)
    rw [if_neg (by simpa using n1)]
    unfold PySem.W.kitCls
    dsimp only
    rw [e, type_of_obj o2]
    rw [if_pos (by rfl)]
    show PySem.W.mroIn K (ga K x) (.ref (ga K y)) = _
    rw [mro_of o1, decide_eq_false z, Bool.false_or]
    congr 1
    unfold mroOf
    by_cases zx : x = pE
    · subst zx
      rw [if_pos rfl]
      have n2 : y ≠ pE := fun q => z q.symm
      rw [decide_eq_false n2]
      simp [n1.symm, veT]
    · rw [if_neg zx]
      by_cases zy : y = pE
      · subst zy
        rw [decide_eq_true rfl]
        simp
      · have n3 : ga K y ≠ ga K pE := fun q => zy (injP q.symm)
        rw [decide_eq_false zy]
        simp [n1.symm, n3, veT]
/-- isinstance by a built-in class -/
theorem kit_type (hx : excB K x = true) {T : String} (m : PySem.W.kitMeta T = true) : PySem.W.kitOne K (.ref (ga K x)) (.type T) = some (veT.contains (.type T)) := by
  have o1 := (bA hx).1
  unfold PySem.W.kitOne
  rw [if_neg (by simp)]
  unfold PySem.W.kitCls
  dsimp only
  rw [if_pos m]
  show PySem.W.mroIn K (ga K x) (.type T) = _
  rw [mro_of o1]
  congr 1
  unfold mroOf
  split <;> simp
end
end EV

set_option Elab.async false
set_option linter.all false
set_option maxRecDepth 100000
set_option maxHeartbeats 4000000
namespace EV
open PySem PySem.Spec PyProof.Rows L2 He
/-! ### a head's facts, told of the objects at written addresses -/
def obsS (fa : List Fa) (fn : List DefD) (ex : PySem.W.Frag → Bool) (as : List Addr) (g : Addr → Option Obj) : AlD × Bool := (obsD fa fn (frG g as), ex (frG g as))
def hookS (fa : List Fa) (fn : List DefD) (ex : PySem.W.Frag → Bool) (as : List Addr) : PySem.W.Hook where
  α := AlD × Bool
  obs := fun s => obsS fa fn ex as s.heap.get?
  val := fun _ => (valD fn, true)
  says := fun _ h => ∃ K : PySem.W.Frag, K.In h ∧ SaysD fa fn K ∧ ex K = true
  of := fun _ s e => ⟨frG s.heap.get? as, frG_in, congrArg (fun z : AlD × Bool => z.1) e, congrArg (fun z : AlD × Bool => z.2) e⟩
  keeps := fun _ _ _ ⟨K, hK, c⟩ k => ⟨K, PySem.W.Frag.In.keeps hK k, c⟩
theorem obsS_eq {fa : List Fa} {fn : List DefD} {ex : PySem.W.Frag → Bool} {as : List Addr} {g : Addr → Option Obj} {s : Shared} (h : ∀ a, g a = s.heap.get? a) : obsS fa fn ex as g = (hookS fa fn ex as).obs s := by
  have e : g = s.heap.get? := funext h
  rw [e] <;> rfl
end EV
namespace EV
open PySem PySem.W PySem.Calls PyProof.Rows
/-- the run's equation from its parts -/
theorem run_of {r : PySem.W.OpenRow} {q : Program} {H : PySem.W.Hook} {ob : PySem.W.SharedT → H.α} {M : Nat} {loose : List PySem.Str} {w : World}
    (h1 : ∀ os : OsState, (HandSHeadRun.endF (HandSHeadRun.stepQ (HandSHeadRun.denQ HandSHeadRun.tabQ) r.prog w) M r.prog w os).map (fun s => (HandSHeadRun.looksF r.prog (boot_heap w.params) s.abs, HandSHeadRun.seenQ q loose (importedModules r.prog.main.body) (fun s => PySem.W.xlAt q [] s && PySem.W.recOk r.toRowW.records s) s.abs)) = some (true, PySem.W.openGood q loose))
    (h2 : ∀ os : OsState, (HandSHeadRun.endF (HandSHeadRun.stepQ (HandSHeadRun.denQ HandSHeadRun.tabQ) r.prog w) M r.prog w os).map ob = some (H.val w)) : HandSHeadRun.RunEq r q H ob M loose w := by
  intro os
  have e1 := h1 os
  have e2 := h2 os
  cases e : HandSHeadRun.endF (HandSHeadRun.stepQ (HandSHeadRun.denQ HandSHeadRun.tabQ) r.prog w) M r.prog w os with
  | none =>
    rw [e] at e1
    cases e1
  | some s =>
    rw [e] at e1 e2
    have q1 := Option.some.inj e1
    have q2 := Option.some.inj e2
    have qa := congrArg Prod.fst q1
    have qb := congrArg Prod.snd q1
    show some _ = some _
    dsimp only at qa qb q2 ⊢
    rw [qa, qb, q2]
end EV

set_option Elab.async false
set_option linter.all false
set_option maxRecDepth 100000
namespace K0
open PySem PySem.Spec PyProof.Rows L2
def top (i : Nat) : Stmt := PySem.Challenge.pw_steadynets_k00_errors_made.main.body.getD i (.Pass ⟨0, 0, 0, 0⟩)
abbrev sI_BadNet : Stmt := inClass (top 2) 0
abbrev sI_BadRun : Stmt := inClass (top 3) 0
abbrev sI_BadChain : Stmt := inClass (top 4) 0
abbrev sI_BadMany : Stmt := inClass (top 6) 0
abbrev sI_BadNumber : Stmt := inClass (top 7) 0
abbrev sI_BadCell : Stmt := inClass (top 8) 0
abbrev sI_BadCube : Stmt := inClass (top 9) 0
abbrev sI_BadOther : Stmt := inClass (top 10) 0
abbrev sI_BadCubes : Stmt := inClass (top 11) 0
abbrev sI_BadLevers : Stmt := inClass (top 12) 0
abbrev sI_BadTable : Stmt := inClass (top 13) 0
abbrev sI_BadBursts : Stmt := inClass (top 14) 0
abbrev sI_BadPanel : Stmt := inClass (top 15) 0
abbrev sI_BadIndex : Stmt := inClass (top 16) 0
abbrev sI_BadSign : Stmt := inClass (top 17) 0
abbrev sI_BadOn : Stmt := inClass (top 18) 0
abbrev sI_BadOff : Stmt := inClass (top 19) 0
abbrev sI_BadClash : Stmt := inClass (top 20) 0
abbrev sI_BadPanelText : Stmt := inClass (top 21) 0
abbrev sI_BadPath : Stmt := inClass (top 22) 0
abbrev sI_BadStep : Stmt := inClass (top 23) 0
abbrev sI_BadSteps : Stmt := inClass (top 24) 0
abbrev sI_BadMachine : Stmt := inClass (top 26) 0
abbrev sI_BadLamps : Stmt := inClass (top 27) 0
abbrev sI_BadStates : Stmt := inClass (top 28) 0
abbrev sI_BadMoves : Stmt := inClass (top 29) 0
abbrev sI_BadName : Stmt := inClass (top 30) 0
abbrev sI_BadWalk : Stmt := inClass (top 31) 0
abbrev sI_BadMachineText : Stmt := inClass (top 32) 0
abbrev sI_BadCode : Stmt := inClass (top 33) 0
abbrev sI_BadMove : Stmt := inClass (top 34) 0
abbrev sI_BadNets : Stmt := inClass (top 35) 0
abbrev sI_BadRuns : Stmt := inClass (top 36) 0
abbrev sI_BadLog : Stmt := inClass (top 37) 0
abbrev sI_BadLogText : Stmt := inClass (top 38) 0
abbrev s_law_start : Stmt := top 40
abbrev s_law_pick : Stmt := top 41
abbrev s_law_between : Stmt := top 42
abbrev s_law_panel_kinds : Stmt := top 43
abbrev s_law_machine_kinds : Stmt := top 44
abbrev s_law_kinds : Stmt := top 45
abbrev s_law_cube_made : Stmt := top 46
abbrev s_law_panel_made : Stmt := top 47
abbrev s_law_machine_made : Stmt := top 48
abbrev s_law_log_made : Stmt := top 49
abbrev s_law_made_at : Stmt := top 50
abbrev s_law_object : Stmt := top 51
abbrev s_law_very : Stmt := top 52
abbrev s_law_caught : Stmt := top 53
abbrev s_law : Stmt := top 54
def cls0 : List (PySem.Str × PySem.Str) := [("BadNet", "net"), ("BadRun", "run"), ("BadChain", "chain"), ("BadMany", "many"), ("BadNumber", "number"), ("BadCell", "cell"), ("BadCube", "cube"), ("BadOther", "other"), ("BadCubes", "index"), ("BadLevers", "index"), ("BadTable", "index"), ("BadBursts", "index"), ("BadPanel", "panel"), ("BadIndex", "index"), ("BadSign", "sign"), ("BadOn", "index"), ("BadOff", "index"), ("BadClash", "cell"), ("BadPanelText", "line"), ("BadPath", "path")]
def cls1 : List (PySem.Str × PySem.Str) := [("BadStep", "step"), ("BadSteps", "index"), ("BadMachine", "machine"), ("BadLamps", "index"), ("BadStates", "index"), ("BadMoves", "index"), ("BadName", "name"), ("BadWalk", "index"), ("BadMachineText", "line"), ("BadCode", "code"), ("BadMove", "move"), ("BadNets", "nets"), ("BadRuns", "index"), ("BadLog", "log"), ("BadLogText", "line")]
def cls : List (PySem.Str × PySem.Str) := cls0 ++ cls1
def plain : List PySem.Str := ["PanelError"]
end K0

set_option Elab.async false
set_option linter.all false
set_option maxRecDepth 100000
set_option maxHeartbeats 4000000
namespace K0
open PySem PySem.Spec PyProof.Rows L2 EV
/-! ### what is drawn -/
/-- the draws' state: at p, its cells at q, so many drawn -/
structure Dw (H : Hp) (p q : Addr) (n : Int) : Prop where
  ex : ∃ (cells : List Int) (cur mix : Int), H p = some (.lst [.ref q, .int cur, .int n, .int mix]) ∧ H q = some (.lst (cells.map V.int)) ∧ 0 ≤ cur ∧ 0 ≤ mix ∧ mix < 2147483647 ∧ cells.length ≤ 1000
  n0 : 0 ≤ n
/-- all but p and q is as it was -/
def Kp (p q : Addr) (H H' : Hp) : Prop := ∀ b o, H b = some o → b ≠ p → b ≠ q → H' b = some o
def spPick : Sp := fun vs H Q _ => ∃ (p q : Addr) (n many : Int), vs = [.ref p, .int many] ∧ Dw H p q n ∧ n < 1000000000 ∧ 1 ≤ many ∧ many < 1073741824 ∧
  ∀ r H', 0 ≤ r → r < many → Kp p q H H' → Dw H' p q (n + 1) → Q (.int r) H'
theorem Kp.refl {p q : Addr} {H : Hp} : Kp p q H H := fun _ _ h _ _ => h
theorem Kp.trans {p q : Addr} {H H1 H2 : Hp} (a : Kp p q H H1) (b : Kp p q H1 H2) : Kp p q H H2 := fun c o h h1 h2 => b c o (a c o h h1 h2) h1 h2
theorem Kp.at {p q a : Addr} {H : Hp} {o : HO} (h : a = p ∨ a = q) : Kp p q H (upd H a o) := fun b u e h1 h2 => by
  rw [upd_ne (by rcases h with z | z <;> rw [z] <;> assumption)]
  exact e
theorem Kp.new {p q a : Addr} {H : Hp} {o : HO} (h : H a = none) : Kp p q H (upd H a o) := fun b u e h1 h2 => by
  rw [upd_ne (ne_of_none e h)]
  exact e
section
variable {P : Program} {w : World} {K : PySem.W.Frag} {mg : PySem.Str → Option Value} {base : Heap} {f : Addr} {fd : FuncData}
theorem dp_ints {K : PySem.W.Frag} {H : Hp} : ∀ l : List Int, DpAll K H (l.map V.int) (l.map PyData.int)
  | [] => .nil
  | i :: r => .cons (.int i) (dp_ints r)
theorem lay_ints : ∀ l : List Int, PyData.canLayAll0 (l.map PyData.int) = true ∧ PyData.depthAll (l.map PyData.int) ≤ 1
  | [] => ⟨rfl, by decide⟩
  | i :: r => by
    obtain ⟨h1, h2⟩ := lay_ints r
    refine ⟨?_, ?_⟩
    · show ((PyData.int i).canLay0 && PyData.canLayAll0 (r.map PyData.int)) = true
      rw [h1]
      rfl
    · show max (PyData.int i).depth (PyData.depthAll (r.map PyData.int)) ≤ 1
      exact Nat.max_le.mpr ⟨Nat.zero_le 1, h2⟩
theorem shaped_ints (l : List Int) : SeqAt.shaped (.list (l.map PyData.int)) = true := by
  obtain ⟨h1, h2⟩ := lay_ints l
  unfold SeqAt.shaped
  have e1 : (PyData.list (l.map PyData.int)).canLay0 = true := h1
  have e2 : (PyData.list (l.map PyData.int)).depth ≤ 64 := by
    show PyData.depthAll (l.map PyData.int) + 1 ≤ 64
    omega
  rw [e1, decide_eq_true e2]
  rfl
abbrev FnP (K : PySem.W.Frag) (x : PySem.Str) (st : Stmt) (f : Addr) (fd : FuncData) : Prop := FunD K x x (defArgs st) (defBody st) (defScope st) [] [] f fd
theorem sc_pick : FnScope ["state", "many", "cell", "digit", "mixed"] ["state", "many"] (defScope s_law_pick) := ⟨rfl, rfl, rfl, by decide +kernel, rfl, by decide +kernel, by decide +kernel⟩
def PickW (p q : Addr) (n many : Int) (H : Hp) : Nat → L2.St → Hp → Prop := fun m σ H' => ∃ (cells : List Int) (cur mix : Int) (c : Option V), σ = [some (.ref p), some (.int many), c, none, none] ∧
  H' p = some (.lst [.ref q, .int cur, .int (n + 1), .int mix]) ∧ H' q = some (.lst (cells.map V.int)) ∧ 0 ≤ cur ∧ 0 ≤ mix ∧ mix < 2147483647 ∧ cells.length ≤ 1000 ∧ Kp p q H H' ∧ cells.length = m
theorem ok_pick (F : FnP K "_law_pick" s_law_pick f fd) (gA : mg "abs" = none) (gI : mg "int" = none) : FnOk P w K mg base CX0 1 f fd ["state", "many"] spPick := by
  refine F.ok sc_pick (fun vs H Q E h => ?_) (fun cdv A outer s H vs Q E hr h => ⟨_, PSs.nox
    (pss_cons (ps_asg (pe_op op_add (pe_ix ix_list (pv 0) pe_int (fun _ _ => rfl)) pe_int) (pg_sub (pv 0) pe_int set_list))
    (pss_cons (ps_while PassesOwn.never (PW.pt (pw_and (pt_cmpR op_eq (pe_ix ix_list (pv 0) pe_int (fun _ _ => rfl)) pe_int (nomark _))
        (pw_and1 (pt_cmpR (op_neD hr.units) (pe_ix ix_list (pv 0) pe_int (fun _ _ => rfl)) (pe_lst pa_nil) (nomark _)))))
      (pss_cons (ps_set (i := 2) sc_pick.nd rfl (Or.inl rfl) (pe_callB call_abs (by rfl) gA (by decide +kernel) (pa_cons
          (pe_bm PySem.F.plainAttrs_list PySem.F.slot_list_pop PySem.F.type_list_pop mt_popAt (pe_ix ix_list (pv 0) pe_int (fun _ _ => rfl)) (pa_cons pe_int pa_nil)) pa_nil)))
      (pss_cons (ps_asg (pe_op op_modN (pe_callTy call_int1 (by rfl) gI (by decide +kernel) (pa_cons (pe_op op_add (pe_op op_add (pe_op op_mul (pe_ix ix_list (pv 0) pe_int (fun _ _ => rfl)) pe_int) (pv 2)) pe_int) pa_nil)) pe_int) (pg_sub (pv 0) pe_int set_list))
      (pss_one (ps_asg (pe_ifExp (pt_cmpR op_ge (pv 2) (pe_op op_pow pe_int pe_int) (nomark _)) (pv 2) pe_int) (pg_sub (pv 0) pe_int set_list))))))
    (pss_cons (ps_if (pt_cmpR op_gt (pe_ix ix_list (pv 0) pe_int (fun _ _ => rfl)) pe_int (nomark _))
      (pss_cons (ps_set (i := 3) sc_pick.nd rfl (Or.inl rfl) (pe_op op_modN (pe_callTy call_int1 (by rfl) gI (by decide +kernel) (pa_cons (pe_ix ix_list (pv 0) pe_int (fun _ _ => rfl)) pa_nil)) (pv 1)))
      (pss_cons (ps_asg (pe_op op_fdivN (pe_ix ix_list (pv 0) pe_int (fun _ _ => rfl)) (pv 1)) (pg_sub (pv 0) pe_int set_list))
      (pss_one (ps_ret (pv 3))))) pss_nil)
    (pss_cons (ps_set (i := 4) sc_pick.nd rfl (Or.inl rfl) (pe_op op_modN (pe_callTy call_int1 (by rfl) gI (by decide +kernel) (pa_cons (pe_op op_pow (pe_op op_add (pe_op op_add (pe_ix ix_list (pv 0) pe_int (fun _ _ => rfl)) (pe_op op_mul pe_int (pe_ix ix_list (pv 0) pe_int (fun _ _ => rfl)))) pe_int) pe_int) pa_nil)) pe_int))
    (pss_one (ps_ret (pe_op op_modN (pe_op op_modN (pe_callTy call_int1 (by rfl) gI (by decide +kernel) (pa_cons (pe_op op_pow (pe_op op_add (pe_op op_add (pe_op op_mul (pv 4) pe_int) (pe_op op_mul pe_int (pe_ix ix_list (pv 0) pe_int (fun _ _ => rfl)))) pe_int) pe_int) pa_nil)) pe_int) (pv 1)))))))), ?_⟩)
  · obtain ⟨p, q, n, many, rfl, _⟩ := h
    rfl
  · obtain ⟨p, q, n, many, rfl, ⟨⟨cells, cur, mix, hp, hq, c0, m0, m1, hl⟩, n0⟩, n1, y1, y2, k⟩ := h
    have pq : p ≠ q := ne_of hp hq (by
      intro z
      have z1 := HO.lst.inj z
      cases cells with
      | nil => cases z1
      | cons a r => cases z1)
    have qp : q ≠ p := Ne.symm pq
    refine ⟨_, rfl, _, _, _, _, rfl, rfl, SqL.of hp, rfl, _, _, rfl, rfl, _, rfl, _, _, _, _, rfl, rfl, hp, rfl, ?_⟩
    refine ⟨PickW p q n many H, ⟨cells.length, cells, cur, mix, none, rfl, upd_same, by rw [upd_ne qp]; exact hq, c0, m0, m1, hl, Kp.at (.inl rfl), rfl⟩, ?_⟩
    clear hp hq c0 m0 m1 hl
    rintro m σ H' ⟨cells, cur, mix, c, rfl, hp, hq, c0, m0, m1, hl, kp, rfl⟩
    refine ⟨_, rfl, _, _, _, _, rfl, rfl, SqL.of hp, rfl, rfl, _, rfl, ?_⟩
    by_cases hc : cur = 0
    · subst hc
      refine iteT ?_
      refine ⟨_, rfl, _, _, _, _, rfl, rfl, SqL.of hp, rfl, (by decide), fun l hlN => ?_⟩
      have lp : p ≠ l := ne_of_none hp hlN
      have lq : q ≠ l := ne_of_none hq hlN
      have hp2 : upd H' l (.lst []) p = some (.lst [.ref q, .int 0, .int (n + 1), .int mix]) := by
        rw [upd_ne lp]
        exact hp
      have hq2 : upd H' l (.lst []) q = some (.lst (cells.map V.int)) := by
        rw [upd_ne lq]
        exact hq
      have kp2 : Kp p q H (upd H' l (.lst [])) := kp.trans (Kp.new hlN)
      refine ⟨.list (cells.map PyData.int), .list [], .lst (SqL.of hq2) (dp_ints _), .lst (SqL.of upd_same) .nil, shaped_ints _, rfl, _, rfl, ?_⟩
      generalize upd H' l (.lst []) = H2 at hp2 hq2 kp2
      clear hp hq kp hlN lp lq
      cases cells with
      | nil =>
        refine iteF ?_
        refine ⟨_, rfl, _, _, _, _, rfl, rfl, SqL.of hp2, rfl, _, _, rfl, rfl, _, rfl, ?_⟩
        refine iteF ?_
        have b1 : (mix + 7907 * (n + 1) + 104723).natAbs < 2 ^ 64 := by omega
        refine ⟨_, rfl, _, _, _, _, rfl, rfl, SqL.of hp2, rfl, _, rfl, _, _, _, _, rfl, rfl, SqL.of hp2, rfl, _, _, rfl, rfl, .inl ⟨by decide, by decide⟩, _, _, rfl, rfl, _, _, rfl, rfl, _, _, rfl, rfl, ⟨by decide, by decide, b1⟩, .inl ⟨_, rfl, _, _, rfl, rfl, (by show (2147483629 : Int) ≠ 0; decide), ?_⟩⟩
        have x0 := Int.fmod_nonneg_of_pos ((mix + 7907 * (n + 1) + 104723) ^ (5 : Int).toNat) (b := 2147483629) (by decide)
        have x1 := Int.fmod_lt_of_pos ((mix + 7907 * (n + 1) + 104723) ^ (5 : Int).toNat) (b := 2147483629) (by decide)
        have b2 : (((mix + 7907 * (n + 1) + 104723) ^ (5 : Int).toNat).fmod 2147483629 * 48271 + 30011 * (n + 1) + 31).natAbs < 2 ^ 64 := by
          generalize ((mix + 7907 * (n + 1) + 104723) ^ (5 : Int).toNat).fmod 2147483629 = m2 at x0 x1
          omega
        refine ⟨_, rfl, _, _, rfl, rfl, .inr ⟨by decide, by decide⟩, _, rfl, _, _, _, _, rfl, rfl, SqL.of hp2, rfl, _, _, rfl, rfl, .inl ⟨by decide, by decide⟩, _, _, rfl, rfl, _, _, rfl, rfl, _, _, rfl, rfl, ⟨by decide, by decide, b2⟩, .inl ⟨_, rfl, _, _, rfl, rfl, (by show (1000000007 : Int) ≠ 0; decide), _, rfl, _, _, rfl, rfl, by show many ≠ 0; omega, ?_⟩⟩
        exact k _ _ (Int.fmod_nonneg_of_pos _ (by omega)) (Int.fmod_lt_of_pos _ (by omega)) kp2 ⟨⟨[], 0, mix, hp2, hq2, Int.le_refl 0, m0, m1, hl⟩, by omega⟩
      | cons cell rest =>
        refine iteT ?_
        refine ⟨PickW p q n many H rest.length, fun σ' H' h => ⟨rest.length, by simp, h⟩, ?_⟩
        have e0 : seqIndex? 0 (cell :: rest |>.map V.int).length = some 0 := by
          simp [seqIndex?]
        refine ⟨_, rfl, _, _, _, _, rfl, rfl, SqL.of hp2, rfl, .inl ⟨rfl, _, SqL.of hq2⟩, _, _, _, _, _, rfl, rfl, hq2, by decide, by decide, e0, rfl, _, rfl, ?_⟩
        generalize hcl : (if cell < 0 then -cell else cell) = cl
        have d0 : 0 ≤ cl := by
          rw [← hcl]
          split <;> omega
        have hp3 : upd H2 q (.lst (((cell :: rest).map V.int).eraseIdx 0)) p = some (.lst [.ref q, .int 0, .int (n + 1), .int mix]) := by
          rw [upd_ne pq]
          exact hp2
        have hq3 : upd H2 q (.lst (((cell :: rest).map V.int).eraseIdx 0)) q = some (.lst (rest.map V.int)) := upd_same
        have kp3 := kp2.trans (Kp.at (p := p) (q := q) (o := .lst (((cell :: rest).map V.int).eraseIdx 0)) (.inr rfl) (H := H2))
        generalize upd H2 q (.lst (((cell :: rest).map V.int).eraseIdx 0)) = H3 at hp3 hq3 kp3
        refine ⟨_, rfl, _, _, _, _, rfl, rfl, SqL.of hp3, rfl, _, _, rfl, rfl, .inr ⟨by decide, by decide⟩, _, rfl, _, _, rfl, rfl, _, _, rfl, rfl, (.inl ⟨_, rfl, _, _, rfl, rfl, (by show (2147483647 : Int) ≠ 0; decide), _, rfl, _, _, _, _, rfl, rfl, hp3, rfl, ?_⟩)⟩
        have x0 := Int.fmod_nonneg_of_pos (mix * 6151 + cl + 5) (b := 2147483647) (by decide)
        have x1 := Int.fmod_lt_of_pos (mix * 6151 + cl + 5) (b := 2147483647) (by decide)
        have hl2 : rest.length ≤ 1000 := by
          have z : rest.length + 1 ≤ 1000 := hl
          omega
        refine ⟨_, rfl, _, _, rfl, rfl, ⟨by decide, by decide, by decide⟩, _, _, rfl, rfl, _, rfl, ite2 (fun _ => ⟨_, rfl, _, rfl, _, _, _, _, rfl, rfl, upd_same, rfl, ?_⟩) (fun _ => ⟨_, rfl, _, _, _, _, rfl, rfl, upd_same, rfl, ?_⟩)⟩
        · exact ⟨rest, cl, _, some (.int cl), rfl, upd_same, by rw [upd_ne qp, upd_ne qp]; exact hq3, d0, x0, x1, hl2, (kp3.trans (Kp.at (.inl rfl))).trans (Kp.at (.inl rfl)), rfl⟩
        · exact ⟨rest, 0, _, some (.int cl), rfl, upd_same, by rw [upd_ne qp, upd_ne qp]; exact hq3, Int.le_refl 0, x0, x1, hl2, (kp3.trans (Kp.at (.inl rfl))).trans (Kp.at (.inl rfl)), rfl⟩
    · have ne0 : decide (V.int cur = V.int 0) = false := decide_eq_false fun z => hc (V.int.inj z)
      rw [ne0]
      refine iteF (iteF ?_)
      refine ⟨_, rfl, _, _, _, _, rfl, rfl, SqL.of hp, rfl, _, _, rfl, rfl, _, rfl, ite2 (fun _ => ?_) (fun z => absurd (decide_eq_true (show (0 : Int) < cur by omega)) z)⟩
      refine ⟨_, rfl, _, _, _, _, rfl, rfl, SqL.of hp, rfl, .inl ⟨_, rfl, _, rfl, _, _, rfl, rfl, by show many ≠ 0; omega, ?_⟩⟩
      refine ⟨_, rfl, _, _, _, _, rfl, rfl, SqL.of hp, rfl, _, rfl, _, _, rfl, rfl, ⟨by show many ≠ 0; omega, by show many.natAbs < _; omega⟩, _, rfl, _, _, _, _, rfl, rfl, hp, rfl, ?_⟩
      refine ⟨_, rfl, ?_⟩
      refine k _ _ (Int.fmod_nonneg_of_pos _ (by omega)) (Int.fmod_lt_of_pos _ (by omega)) (kp.trans (Kp.at (.inl rfl))) ⟨⟨cells, cur.fdiv many, mix, upd_same, by rw [upd_ne qp]; exact hq, ?_, m0, m1, hl⟩, by omega⟩
      rw [Int.fdiv_eq_ediv_of_nonneg _ (by omega)]
      exact Int.ediv_nonneg c0 (by omega)
end
end K0

set_option Elab.async false
set_option linter.all false
set_option maxRecDepth 100000
set_option maxHeartbeats 4000000
namespace K0
open PySem PySem.Spec PyProof.Rows L2 EV He
/-! ### what the head tells -/
def names : List PySem.Str := cls.map (·.1) ++ plain
structure Tx (K : PySem.W.Frag) (mg : PySem.Str → Option Value) : Prop where
  ex : exAll cls plain K = true
  gl : ∀ x, excB K x = true → mg x = some (.ref (ga K x))
  fr : ∀ x ∈ (["abs", "int", "max", "isinstance", "range", "list", "tuple", "dict", "bool", "str", "len", "all", "zip", "ValueError", "KeyError", "IndexError", "TypeError"] : List PySem.Str), mg x = none
section
variable {K : PySem.W.Frag} {mg : PySem.Str → Option Value} {x y : PySem.Str} {a : Addr} {H : Hp} {Q : VK}
theorem Tx.cb (T : Tx K mg) : classB K = true := (bA T.ex).1
theorem Tx.one (T : Tx K mg) {p : PySem.Str × PySem.Str} (h : p ∈ cls) : excB K p.1 = true ∧ iniB K p = true :=
  bA (List.all_eq_true.mp (bA (bA (bA T.ex).2).2).1 p h)
theorem Tx.exc (T : Tx K mg) (h : x ∈ names) : excB K x = true := by
  rcases List.mem_append.mp h with h | h
  · obtain ⟨p, hp, e⟩ := List.mem_map.mp h
    rw [← e]
    exact (T.one hp).1
  · exact List.all_eq_true.mp (bA (bA (bA (bA T.ex).2).2).2).1 x h
theorem nodup_inj {α β : Type} {f : α → β} : ∀ {l : List α}, (l.map f).Nodup → ∀ {x y : α}, x ∈ l → y ∈ l → f x = f y → x = y
  | [], _, _, _, h, _, _ => by cases h
  | a :: r, n, x, y, hx, hy, e => by
    rw [List.map_cons, List.nodup_cons] at n
    rcases List.mem_cons.mp hx with e1 | h1
    · rcases List.mem_cons.mp hy with e2 | h2
      · rw [e1, e2]
      · exact absurd (List.mem_map.mpr ⟨y, h2, by rw [← e, e1]⟩) n.1
    · rcases List.mem_cons.mp hy with e2 | h2
      · exact absurd (List.mem_map.mpr ⟨x, h1, by rw [e, e2]⟩) n.1
      · exact nodup_inj n.2 h1 h2 e
theorem Tx.inj (T : Tx K mg) (hx : x ∈ names) (hy : y ∈ names) (e : ga K x = ga K y) : x = y := by
  have n := of_decide_eq_true (bA (bA (bA (bA (bA T.ex).2).2).2).2).1
  exact nodup_inj (f := ga K) (l := names) n hx hy e
theorem pE_in : pE ∈ names := by decide +kernel
theorem Tx.kit (T : Tx K mg) (hx : x ∈ names) (hy : y ∈ names) : PySem.W.kitOne K (.ref (ga K x)) (.ref (ga K y)) = some (decide (x = y) || decide (y = pE)) :=
  kit_own (T.exc hx) (T.exc hy) (T.inj hx hy) fun e => (T.inj pE_in hy e).symm
theorem Tx.kitT (T : Tx K mg) (hx : x ∈ names) {t : String} (m : PySem.W.kitMeta t = true) : PySem.W.kitOne K (.ref (ga K x)) (.type t) = some (veT.contains (.type t)) := kit_type (T.exc hx) m
theorem Tx.gb (T : Tx K mg) (hx : x ∈ names) : mg x = some (.ref (ga K x)) := T.gl x (T.exc hx)
/-- isinstance(e, y) -/
theorem r_is (T : Tx K mg) (hx : x ∈ names) (hy : y ∈ names) (h : IsEr H a (ga K x)) (q : Q (.bl (decide (x = y) || decide (y = pE))) H) : rIsEr K [.ref a, .ref (ga K y)] H Q :=
  ⟨a, ga K x, _, _, _, rfl, .own _, excC_of T.cb (T.exc hx), h, T.kit hx hy, q⟩
theorem r_isT (T : Tx K mg) (hx : x ∈ names) {t : String} (m : PySem.W.kitMeta t = true) (h : IsEr H a (ga K x)) (q : Q (.bl (veT.contains (.type t))) H) : rIsEr K [.ref a, .ty t] H Q :=
  ⟨a, ga K x, _, _, _, rfl, .ty _, excC_of T.cb (T.exc hx), h, T.kitT hx m, q⟩
end
/-! ### a class's own __init__ -/
def IniOk (P : Program) (w : World) (K : PySem.W.Frag) (mg : PySem.Str → Option Value) (base : Heap) (p : PySem.Str × PySem.Str) : Prop :=
  ∃ fd : FuncData, FnOk P w K mg base CX0 1 (ma K (ga K p.1) "__init__") fd ["self", p.2] (spI (ga K p.1) p.2) ∧
    (∀ (s : Shared) (u v : Value), K.In s.heap → BindsTo s fd ⟨[u, v], []⟩ [("self", u), (p.2, v)]) ∧ ∀ (s : Shared) (u v : Value), K.In s.heap → BindsTo s fd ⟨[u], [(p.2, v)]⟩ [("self", u), (p.2, v)]
section
variable {X : Cx} {x f : PySem.Str} {e : Expr} {te : TE} {p pos kp : Pos}
theorem pe_C (T : Tx X.K X.mg) (hI : ∀ p ∈ cls, IniOk X.prog X.w X.K X.mg X.base p) (hx : (x, f) ∈ cls) (hr : Room 2 X.A) (hg : Gl X x) (he : PE X e te)
    (hdb : (x == ("__debug__" : PySem.Str)) = false := by decide) (hs : starEach [e] X.env = (false, eval e X.env) :: starEach [] X.env := by rfl) (hpl : (backTo pos (starEach [] X.env)).any (·.1) = false := by rfl) :
    PE X (.Call (.Name x p) [e] [] pos) (tNew (ga X.K x) f te) := by
  obtain ⟨fd, F, b, _⟩ := hI _ hx
  have o := T.one hx
  exact pe_new (err_of o.1 o.2) F hr b pass0 hg (T.gl _ o.1) he hdb hs hpl
theorem pe_CK (T : Tx X.K X.mg) (hI : ∀ p ∈ cls, IniOk X.prog X.w X.K X.mg X.base p) (hx : (x, f) ∈ cls) (hr : Room 2 X.A) (hg : Gl X x) (he : PE X e te)
    (hall : (backToKw pos (keywordEach [⟨some f, e, kp⟩] X.env)).all (·.1.isSome) = true := by rfl) (hks : (backToKw pos (keywordEach [⟨some f, e, kp⟩] X.env)).filterMap (·.1) = [f] := by rfl) (hdb : (x == ("__debug__" : PySem.Str)) = false := by decide)
    (hpl : ((backTo pos (starEach [] X.env)).any (·.1) || (backToKw pos (keywordEach [⟨some f, e, kp⟩] X.env)).any (·.1.isNone)) = false := by rfl) :
    PE X (.Call (.Name x p) [] [⟨some f, e, kp⟩] pos) (tNew (ga X.K x) f te) := by
  obtain ⟨fd, F, _, b⟩ := hI _ hx
  have o := T.one hx
  exact pe_newK (err_of o.1 o.2) F hr b pass0 hg (T.gl _ o.1) he hall hks hdb hpl
end
end K0

set_option Elab.async false
set_option linter.all false
set_option maxRecDepth 100000
set_option maxHeartbeats 0
namespace K0
open PySem PySem.Spec PyProof.Rows L2 EV
def mkD (a : PySem.Str × Option PySem.Str) (n q : PySem.Str) (s : Stmt) : He.DefD := ⟨a, n, q, defArgs s, defBody s, defScope s, [], []⟩
def fn0 : List He.DefD := [mkD ("BadNet", some "__init__") "__init__" "BadNet.__init__" (inClass (top 2) 0),
  mkD ("BadRun", some "__init__") "__init__" "BadRun.__init__" (inClass (top 3) 0),
  mkD ("BadChain", some "__init__") "__init__" "BadChain.__init__" (inClass (top 4) 0),
  mkD ("BadMany", some "__init__") "__init__" "BadMany.__init__" (inClass (top 6) 0),
  mkD ("BadNumber", some "__init__") "__init__" "BadNumber.__init__" (inClass (top 7) 0),
  mkD ("BadCell", some "__init__") "__init__" "BadCell.__init__" (inClass (top 8) 0),
  mkD ("BadCube", some "__init__") "__init__" "BadCube.__init__" (inClass (top 9) 0),
  mkD ("BadOther", some "__init__") "__init__" "BadOther.__init__" (inClass (top 10) 0),
  mkD ("BadCubes", some "__init__") "__init__" "BadCubes.__init__" (inClass (top 11) 0),
  mkD ("BadLevers", some "__init__") "__init__" "BadLevers.__init__" (inClass (top 12) 0),
  mkD ("BadTable", some "__init__") "__init__" "BadTable.__init__" (inClass (top 13) 0),
  mkD ("BadBursts", some "__init__") "__init__" "BadBursts.__init__" (inClass (top 14) 0),
  mkD ("BadPanel", some "__init__") "__init__" "BadPanel.__init__" (inClass (top 15) 0),
  mkD ("BadIndex", some "__init__") "__init__" "BadIndex.__init__" (inClass (top 16) 0),
  mkD ("BadSign", some "__init__") "__init__" "BadSign.__init__" (inClass (top 17) 0),
  mkD ("BadOn", some "__init__") "__init__" "BadOn.__init__" (inClass (top 18) 0),
  mkD ("BadOff", some "__init__") "__init__" "BadOff.__init__" (inClass (top 19) 0),
  mkD ("BadClash", some "__init__") "__init__" "BadClash.__init__" (inClass (top 20) 0),
  mkD ("BadPanelText", some "__init__") "__init__" "BadPanelText.__init__" (inClass (top 21) 0),
  mkD ("BadPath", some "__init__") "__init__" "BadPath.__init__" (inClass (top 22) 0)]
def fn1 : List He.DefD := [mkD ("BadStep", some "__init__") "__init__" "BadStep.__init__" (inClass (top 23) 0),
  mkD ("BadSteps", some "__init__") "__init__" "BadSteps.__init__" (inClass (top 24) 0),
  mkD ("BadMachine", some "__init__") "__init__" "BadMachine.__init__" (inClass (top 26) 0),
  mkD ("BadLamps", some "__init__") "__init__" "BadLamps.__init__" (inClass (top 27) 0),
  mkD ("BadStates", some "__init__") "__init__" "BadStates.__init__" (inClass (top 28) 0),
  mkD ("BadMoves", some "__init__") "__init__" "BadMoves.__init__" (inClass (top 29) 0),
  mkD ("BadName", some "__init__") "__init__" "BadName.__init__" (inClass (top 30) 0),
  mkD ("BadWalk", some "__init__") "__init__" "BadWalk.__init__" (inClass (top 31) 0),
  mkD ("BadMachineText", some "__init__") "__init__" "BadMachineText.__init__" (inClass (top 32) 0),
  mkD ("BadCode", some "__init__") "__init__" "BadCode.__init__" (inClass (top 33) 0),
  mkD ("BadMove", some "__init__") "__init__" "BadMove.__init__" (inClass (top 34) 0),
  mkD ("BadNets", some "__init__") "__init__" "BadNets.__init__" (inClass (top 35) 0),
  mkD ("BadRuns", some "__init__") "__init__" "BadRuns.__init__" (inClass (top 36) 0),
  mkD ("BadLog", some "__init__") "__init__" "BadLog.__init__" (inClass (top 37) 0),
  mkD ("BadLogText", some "__init__") "__init__" "BadLogText.__init__" (inClass (top 38) 0),
  mkD ("_law_start", none) "_law_start" "_law_start" (top 40),
  mkD ("_law_pick", none) "_law_pick" "_law_pick" (top 41),
  mkD ("_law_between", none) "_law_between" "_law_between" (top 42),
  mkD ("_law_panel_kinds", none) "_law_panel_kinds" "_law_panel_kinds" (top 43),
  mkD ("_law_machine_kinds", none) "_law_machine_kinds" "_law_machine_kinds" (top 44)]
def fn2 : List He.DefD := [mkD ("_law_kinds", none) "_law_kinds" "_law_kinds" (top 45),
  mkD ("_law_cube_made", none) "_law_cube_made" "_law_cube_made" (top 46),
  mkD ("_law_panel_made", none) "_law_panel_made" "_law_panel_made" (top 47),
  mkD ("_law_machine_made", none) "_law_machine_made" "_law_machine_made" (top 48),
  mkD ("_law_log_made", none) "_law_log_made" "_law_log_made" (top 49),
  mkD ("_law_made_at", none) "_law_made_at" "_law_made_at" (top 50),
  mkD ("_law_object", none) "_law_object" "_law_object" (top 51),
  mkD ("_law_very", none) "_law_very" "_law_very" (top 52),
  mkD ("_law_caught", none) "_law_caught" "_law_caught" (top 53),
  mkD ("law", none) "law" "law" (top 54)]
def fn : List He.DefD := fn0 ++ fn1 ++ fn2
def loose0 : List PySem.Str := ["PanelError", "BadNet", "BadRun", "BadChain", "BadMany", "BadNumber", "BadCell", "BadCube", "BadOther", "BadCubes", "BadLevers", "BadTable", "BadBursts", "BadPanel", "BadIndex", "BadSign", "BadOn", "BadOff", "BadClash", "BadPanelText", "BadPath", "BadStep", "BadSteps", "BadMachine", "BadLamps", "BadStates", "BadMoves", "BadName", "BadWalk", "BadMachineText"]
def loose1 : List PySem.Str := ["BadCode", "BadMove", "BadNets", "BadRuns", "BadLog", "BadLogText", "_law_start", "_law_pick", "_law_between", "_law_panel_kinds", "_law_machine_kinds", "_law_kinds", "_law_cube_made", "_law_panel_made", "_law_machine_made", "_law_log_made", "_law_made_at", "_law_object", "_law_very", "_law_caught"]
def loose : List PySem.Str := loose0 ++ loose1
def fa0 : List He.Fa := [.glo "_law_start", .glo "_law_pick", .glo "_law_between", .glo "_law_panel_kinds", .glo "_law_machine_kinds", .glo "_law_kinds", .glo "_law_cube_made", .glo "_law_panel_made", .glo "_law_machine_made", .glo "_law_log_made", .glo "_law_made_at", .glo "_law_object", .glo "_law_very", .glo "_law_caught", .glo "law", .free "abs", .free "int", .free "max", .free "isinstance", .free "range", .free "list", .free "tuple", .free "dict", .free "bool", .free "str", .free "len", .free "all", .free "zip", .free "ValueError", .free "KeyError"]
def fa1 : List He.Fa := [.free "IndexError", .free "TypeError"]
def fa : List He.Fa := fa0 ++ fa1
def ad0 : List Addr := [3, 24, 23, 44, 43, 41, 40, 63, 62, 60, 59, 82, 81, 79, 78, 101, 100, 98, 97, 120, 119, 117, 116, 139, 138, 136, 135, 158, 157, 155, 154, 177, 176, 174, 173, 196, 195, 193, 192, 215, 214, 212, 211, 234, 233, 231, 230, 253, 252, 250, 249, 272, 271, 269, 268, 291, 290, 288, 287, 310, 309, 307, 306, 329, 328, 326, 325, 348, 347, 345, 344, 367, 366, 364, 363, 386, 385, 383, 382, 405, 404, 402, 401, 424, 423, 421, 420, 443, 442, 440, 439, 462, 461, 459, 458, 481, 480, 478, 477, 500]
def ad1 : List Addr := [499, 497, 496, 519, 518, 516, 515, 538, 537, 535, 534, 557, 556, 554, 553, 576, 575, 573, 572, 595, 594, 592, 591, 614, 613, 611, 610, 633, 632, 630, 629, 652, 651, 649, 648, 671, 670, 668, 667, 690, 689, 687, 686, 699, 698, 706, 705, 713, 712, 718, 717, 723, 722, 730, 729, 737, 736, 744, 743, 751, 750, 758, 757, 765, 764, 772, 771, 779, 778, 786, 785, 793, 792]
def ad : List Addr := ad0 ++ ad1
abbrev R : PySem.W.OpenRow := PySem.W.OpenLaw.row PySem.Challenge.rw_steadynets_k00_errors_made
abbrev hk : PySem.W.Hook := hookS fa fn (exAll cls plain) ad
def ob (s : PySem.W.SharedT) : He.AlD × Bool := obsS fa fn (exAll cls plain) ad (HandSHeadRun.getT s)
theorem ob_eq (s : PySem.W.SharedT) : ob s = hk.obs s.abs := obsS_eq (HandSHeadRun.getT_eq s)
end K0
namespace K0
open PySem PySem.W PySem.Calls PyProof.Rows EV
def RunC (w : World) : Prop := ∀ os : OsState, (HandSHeadRun.endF (HandSHeadRun.stepQ (HandSHeadRun.denQ HandSHeadRun.tabQ) R.prog w) 40000 R.prog w os).map (fun s => (HandSHeadRun.looksF R.prog (boot_heap w.params) s.abs, HandSHeadRun.seenQ (view R.prog [54]) loose (importedModules R.prog.main.body) (fun s => xlAt (view R.prog [54]) [] s && recOk R.toRowW.records s) s.abs)) = some (true, openGood (view R.prog [54]) loose)
def RunB (w : World) : Prop := ∀ os : OsState, (HandSHeadRun.endF (HandSHeadRun.stepQ (HandSHeadRun.denQ HandSHeadRun.tabQ) R.prog w) 40000 R.prog w os).map ob = some (hk.val w)
theorem runC0 (w : World) : RunC (w.withFollow "special-get-raises" false) := by
  intro os
  kernel_rfl
theorem runC1 (w : World) : RunC (w.withFollow "special-get-raises" true) := by
  intro os
  kernel_rfl
theorem runB0 (w : World) : RunB (w.withFollow "special-get-raises" false) := by
  intro os
  kernel_rfl
theorem runB1 (w : World) : RunB (w.withFollow "special-get-raises" true) := by
  intro os
  kernel_rfl
theorem run (w : World) : HandSHeadRun.RunEq R (PySem.W.view R.prog [54]) hk ob 40000 loose w :=
  run_of (byRow2 "special-get-raises" (P := RunC) runC0 runC1 w) (byRow2 "special-get-raises" (P := RunB) runB0 runB1 w)
end K0

set_option Elab.async false
set_option linter.all false
set_option maxRecDepth 100000
set_option maxHeartbeats 4000000
namespace EV
open PySem PySem.Spec PyProof.Rows L2 HotX L2H
/-! ### a list comprehension over a range while an error is handled -/
/-- a block's context that bears the pin q -/
abbrev blkH (X : Cx) (q : Addr × Obj) (s : Shared) (H : Hp) (sc : Scope) (env : Env) (fp : List Addr) : Cx := { X.blk s H sc env fp with pn := [q] }
theorem blk_pin {X : Cx} {q : Addr × Obj} {s u : Shared} {H G : Hp} {sc : Scope} {env : Env} {fp : List Addr} {σ : L2.St} (I : Inv (X.blk s H sc env fp) [] σ G u)
    (hq : u.heap.get? q.1 = some q.2 ∧ G q.1 = none ∧ q.1 ≠ env.locals ∧ q.1 ∉ (X.blk s H sc env fp).fs ∧ ∀ v, q.2.data ≠ .cell v) : Inv (blkH X q s H sc env fp) [] σ G u := by
  have o := I.ok
  refine ⟨⟨o.mod, o.kind, o.glob, o.blt, o.above, o.inj, o.has, o.cab, o.hd, o.frames, o.stk, o.exf, o.bs, o.bsz, o.noex, o.exfs, o.funs, o.frf⟩, I.os, I.bare, I.base, I.loc, I.cell, I.free, I.freeC, fun z hz => ?_, I.hok, I.len⟩
  have e : z = q := by simpa using (show z ∈ [q] ++ [] from hz)
  rw [e]
  exact hq
section
variable {X : Cx} {q : Addr × Obj} {pins : List (Addr × Obj)} {s : Shared} {σ : L2.St} {H : Hp} {Q : VK} {elt tg iter : Expr} {ifs : List Expr} {scope : Scope} {own : List (PySem.Str × Nat)} {pos : Pos} {wi : TI} {g : TG} {tt : TT} {te : TE}
theorem lcH (hot : Hot1 X.A q) (hqn : q ∈ X.pn) (hN : X.N.Nodup) (I : Inv X pins σ H s) (hi : PIH X tg iter wi) (ok : BlkOk X.N X.env.scope scope own)
    (hg : ∀ s H C cl fp, PG (blkH X q s H scope (compEnvC scope cl C X.env) fp) tg g)
    (ht : ∀ s H C cl fp, PTs (blkH X q s H scope (compEnvC scope cl C X.env) fp) ifs tt)
    (he : ∀ s H C cl fp, PE (blkH X q s H scope (compEnvC scope cl C X.env) fp) elt te)
    (hs : ∀ x, foldedSetIterable iter X.env x = pure x) (h : tLc wi g tt te (own.map (·.2)) σ H Q) :
    wpAny (model X.prog X.w) X.A (eval (.ListComp elt [⟨tg, iter, ifs, 0⟩] scope pos) X.env) (EP X pins σ Q) X.xe s := by
  rw [eval_ListComp]
  have fr : ∀ y ∈ scope.names, y.2 = .free → ∃ c, X.env.cells.lookup y.1 = some c := by
    intro y hy e
    rcases ok.free y hy e with k | k
    · exact I.ok.has _ (.inl k)
    · exact I.ok.has _ (.inr k)
  refine wpAny_comprehension_free (use := none) rfl hs (closure_ok fr) ok.kind (fun y hy e => by rw [ok.uniq y hy, e]) ?_
  refine thn (hi.run pins s σ H _ I h) fun xv s1 hx => thn hx fun itv s2 h2 => ?_
  obtain ⟨it, fp, tn, J, H2, e, I2, T, st2, f2, qq⟩ := h2
  subst e
  refine wpAny_newObj_type (newEnv_comp ?_) (by show 0 ≤ sizeLine; decide)
  generalize eD : s2.heap.objs.size = D
  have nD : H2 D = none := I2.hok.fresh (Nat.le_of_eq eD)
  obtain ⟨W, ⟨m0, w0⟩, turn⟩ := qq D nD
  have P0 := I2.pin q (List.mem_append_left _ hqn)
  have qlt : q.1 < s2.heap.objs.size := Heap.lt_size P0.1
  generalize e3 : ({ s2 with heap := s2.heap.push { cls := .type "list", data := .seq ([] : List Value).toArray } } : Shared) = s3
  have g3 : s3.heap = s2.heap.push { cls := .type "list", data := .seq ([] : List Value).toArray } := by
    rw [← e3]
  have I3 : Inv X pins σ (upd H2 D (.lst [])) s3 := by
    rw [← e3]
    refine I2.laid (t' := s2.toks) (fun b o z => Heap.get?_push_of_some _ z) (Nat.le_of_eq eD) ⟨Nat.zero_le _, [], 0, .nil, ?_⟩
    rw [← eD]
    exact Heap.get?_push_size _ rfl
  have f3 : ∀ b ∈ fp, FpOk X pins (upd H2 D (.lst [])) b ∧ b < s3.heap.objs.size := by
    intro b hb
    obtain ⟨o, z, _⟩ := T.obj _ _ st2 b hb
    have lt := Heap.lt_size z
    refine ⟨⟨?_, (f2 b hb).2⟩, ?_⟩
    · rw [upd_ne (by rw [← eD]; exact Nat.ne_of_lt lt)]
      exact (f2 b hb).1
    · rw [g3, Heap.size_push]
      exact Nat.lt_succ_of_lt lt
  have st3 : tn 0 s3.heap := T.keep _ _ _ st2 fun b _ o z => by
    rw [g3]
    exact Heap.get?_push_of_some _ z
  have P3 := I3.pin q (List.mem_append_left _ hqn)
  have q3 : q.1 < s3.heap.objs.size := Heap.lt_size P3.1
  have nst : q.1 ∉ frs X.stack := fun z => (List.mem_cons.mp (I3.stkSub q.1 z)).elim P3.2.2.1 P3.2.2.2.1
  have nfpq : q.1 ∉ fp := fun z => (f2 q.1 z).2.2.2.2.2 q (List.mem_append_left _ hqn) rfl
  have B0 := block_start I3 ok hN f3
  have pg := hg s3 (upd H2 D (.lst [])) s3.heap.objs.size (cellsFrom (s3.heap.objs.size + 1) scope.names (cloFrom X.env.cells scope.names [])) fp
  have pt := ht s3 (upd H2 D (.lst [])) s3.heap.objs.size (cellsFrom (s3.heap.objs.size + 1) scope.names (cloFrom X.env.cells scope.names [])) fp
  have pe := he s3 (upd H2 D (.lst [])) s3.heap.objs.size (cellsFrom (s3.heap.objs.size + 1) scope.names (cloFrom X.env.cells scope.names [])) fp
  show codeAny _ _ (.compStart (.ListComp elt [⟨tg, iter, ifs, 0⟩] scope pos) 0 (.ref it) (.ref D) (compEnvC scope (cellsFrom (s3.heap.objs.size + 1) scope.names
    (cloFrom X.env.cells scope.names [])) s3.heap.objs.size X.env)) (compPost (model X.prog X.w) X.A X.xe none (EP X pins σ Q) (.ref D) s3.heap.objs.size)
    { s3 with heap := pushCells (s3.heap.push { cls := .type "dict", data := .dict #[] }) scope.names }
  generalize ece : compEnvC scope (cellsFrom (s3.heap.objs.size + 1) scope.names (cloFrom X.env.cells scope.names [])) s3.heap.objs.size X.env = ce at B0 pg pt pe ⊢
  have cL : ce.locals = s3.heap.objs.size := by
    subst ece
    rfl
  have nfp : ∀ b ∈ fp, (upd H2 D (.lst [])) b = none := fun b hb => (f3 b hb).1.1
  generalize eH : upd H2 D (.lst []) = H3 at I3 B0 pg pt pe w0 nfp f3 P3
  generalize e4 : ({ s3 with heap := pushCells (s3.heap.push { cls := .type "dict", data := .dict #[] }) scope.names } : Shared) = s4 at B0 ⊢
  have keep4 : ∀ b o, s3.heap.get? b = some o → s4.heap.get? b = some o := fun b o z => by
    rw [← e4]
    exact pushCells_keeps _ _ _ _ (Heap.get?_push_of_some _ z)
  have st4 : tn 0 s4.heap := T.keep _ _ _ st3 fun b _ o z => keep4 b o z
  have B4 : Inv (blkH X q s3 H3 scope ce fp) [] (wipe σ (own.map (·.2))) H3 s4 := blk_pin B0 ⟨keep4 _ _ P3.1, P3.2.1, by rw [cL]; exact Nat.ne_of_lt q3, nst, P3.2.2.2.2⟩
  have hc : HotC (blkH X q s3 H3 scope ce fp) := ⟨q, hot, List.mem_singleton.mpr rfl⟩
  have stat : ∀ {σ' : L2.St} {G : Hp} {u : Shared}, Inv (blkH X q s3 H3 scope ce fp) [] σ' G u → (∀ b ∈ fp, G b = none) → ∀ b ∈ fp, FpOk (blkH X q s3 H3 scope ce fp) [] G b := by
    intro σ' G u B hn b hb
    refine ⟨hn b hb, (B.ok.exf b hb).1, B.ok.exfs b hb, .inl hb, fun x c z => (B.ok.exf b hb).2 x c z, fun p hp z => ?_⟩
    have ep : p = q := by simpa using (show p ∈ [q] ++ [] from hp)
    rw [ep] at z
    exact nfpq (z ▸ hb)
  have loop : codeAny (model X.prog X.w) X.A (.compLoop (.ListComp elt [⟨tg, iter, ifs, 0⟩] scope pos) 0 (.ref it) (.ref D) ce)
      (compPost (model X.prog X.w) X.A X.xe none (EP X pins σ Q) (.ref D) s3.heap.objs.size) s4 := by
    refine compLoop_any (fun n u => ∃ i G, Inv (blkH X q s3 H3 scope ce fp) [] (wipe σ (own.map (·.2))) G u ∧ tn i u.heap ∧ (∀ b ∈ fp, G b = none) ∧ W i n G) ?_ m0 ⟨0, H3, B4, st4, nfp, w0⟩
    rintro n s5 ⟨i, H5, B5, st5, n5, w5⟩
    rcases turn i n H5 w5 with ⟨stop, fin⟩ | ⟨go, Nx, hNx, step⟩
    · refine thnF (T.done (blkH X q s3 H3 scope ce fp) rfl rfl rfl hc i [] s5 _ H5 (fun _ _ => False) B5 (stat B5 n5) st5 stop) fun r s6 ⟨hr, B6⟩ => ?_
      subst hr
      have I6 : Inv X pins σ H5 s6 := I3.call' (ch := fp) B6.os B6.base B6.hok B6.bare fun b hb => ⟨(f3 b hb).1.2.2.2.1, (f3 b hb).1.2.1, (f3 b hb).1.2.2.2.2.1, (f3 b hb).1.2.2.2.2.2⟩
      have nC : H5 s3.heap.objs.size = none := by
        have z : H5 ce.locals = none := B6.free
        rw [cL] at z
        exact z
      obtain ⟨m, hn, _⟩ := B6.loc
      have hn2 : s6.heap.Ns ce.locals m := hn
      rw [cL] at hn2
      obtain ⟨z0, z1, z2, z3, z4, z5⟩ := I3.fpOk (b := s3.heap.objs.size) (Nat.le_refl _) nC
      exact ⟨m, hn2, fun h'' sb => ⟨.ref D, H5, I6.turned (t' := s6.toks) (fun b o hb z => (sb.2 b hb).trans z) z0 z1 z3 z4 z5, rfl, fin⟩⟩
    · refine thnF (T.item (blkH X q s3 H3 scope ce fp) rfl rfl rfl hc i [] s5 _ H5 (fun _ _ => False) B5 (stat B5 n5) st5 go) fun r s6 ⟨u, hr, h6⟩ => ?_
      subst hr
      refine thnF h6 fun _ s7 ⟨x, H7, B7, r7, y7, st7, n7⟩ => ?_
      have B7' := B7.pinned (stat B7 n7) (T.obj _ _ st7)
      refine thnF (pg.run _ s7 _ H7 x u _ B7' r7 (step x H7 y7)) fun _ s8 ⟨σ8, H8, B8, w8, q8⟩ => ?_
      refine thnF (pt.run _ s8 σ8 H8 _ B8 q8) fun b s9 ⟨H9, B9, q9⟩ => ?_
      have back : ∀ {u : Shared} {G : Hp}, Inv (blkH X q s3 H3 scope ce fp) ([] ++ pinsAt fp s7.heap) σ8 G u → Nx G →
          ∃ m, m < n ∧ ∃ i G, Inv (blkH X q s3 H3 scope ce fp) [] (wipe σ (own.map (·.2))) G u ∧ tn i u.heap ∧ (∀ b ∈ fp, G b = none) ∧ W i m G := by
        intro u G B nx
        obtain ⟨m', hm, w'⟩ := hNx G nx
        have pin' : ∀ b ∈ fp, ∀ o, s7.heap.get? b = some o → u.heap.get? b = some o ∧ G b = none := by
          intro b hb o z
          have y := B.pin (b, o) (List.mem_append_right _ (List.mem_append_right _ (mem_pinsAt hb z)))
          exact ⟨y.1, y.2.1⟩
        have len : (wipe σ (own.map (·.2))).length = σ8.length := by
          rw [← w8, wipe_length]
        refine ⟨m', hm, i + 1, G, (B.unpinned (pins := [])).weak len (fun j v z => ?_), T.keep _ _ _ st7 fun b hb o z => (pin' b hb o z).1, fun b hb => ?_, w'⟩
        · rw [← w8] at z
          exact (wipe_some z).1
        · obtain ⟨o, z, _⟩ := T.obj _ _ st7 b hb
          exact (pin' b hb o z).2
      cases b with
      | false =>
        simp only [Bool.false_eq_true, if_false] at q9 ⊢
        exact back B9 q9
      | true =>
        simp only [if_true] at q9 ⊢
        refine thnF (pe.run _ s9 σ8 H9 _ B9 q9) fun z s10 ⟨yv, H10, B10, r10, acc, hD10, hz10, nx⟩ => ?_
        exact app_ok (X := blkH X q s3 H3 scope ce fp) B10 hD10 hz10 r10 fun s11 B11 => back B11 nx
  exact codeAny_compStart_list loop (T.self X.A 0 _ _ _ st4 loop)
theorem pe_lcH (hot : Hot1 X.A q) (hqn : q ∈ X.pn) (hN : X.N.Nodup) (hi : PIH X tg iter wi) (ok : BlkOk X.N X.env.scope scope own)
    (hg : ∀ s H C cl fp, PG (blkH X q s H scope (compEnvC scope cl C X.env) fp) tg g)
    (ht : ∀ s H C cl fp, PTs (blkH X q s H scope (compEnvC scope cl C X.env) fp) ifs tt)
    (he : ∀ s H C cl fp, PE (blkH X q s H scope (compEnvC scope cl C X.env) fp) elt te) (hs : ∀ x, foldedSetIterable iter X.env x = pure x := by intro _; rfl) :
    PE X (.ListComp elt [⟨tg, iter, ifs, 0⟩] scope pos) (tLc wi g tt te (own.map (·.2))) :=
  ⟨fun pins s σ H Q I h => lcH hot hqn hN I hi ok hg ht he hs h⟩
end
end EV

set_option Elab.async false
set_option linter.all false
set_option maxRecDepth 100000
set_option maxHeartbeats 4000000
namespace EV
open PySem PySem.Spec PyProof.Rows L2 HotX L2H
/-! ### a def called while the error q is handled, what it promises of q -/
structure FnQ (P : Program) (w : World) (K : PySem.W.Frag) (mg : PySem.Str → Option Value) (base : Heap) (k : Nat) (q : Addr × Obj) (f : Addr) (fd : FuncData) (ps : List PySem.Str) (sp : Sp) : Prop where
  len : ∀ vs H Q E, sp vs H Q E → vs.length = ps.length
  run : ∀ (A : Around) (outer : List Env) (s : Shared) (H : Hp) (args : Args) (us : List Value) (vs : List V) (Q : VK) (E : XK), RoomH k A → Hot1 A q → PinOk outer H s q → Env0 P w K mg base A outer s H →
    BindsTo s fd args (ps.zip us) → Vals vs us → sp vs H Q E → codeAny (model P w) A (.call (.ref f) args) (CR CX0 outer P w H s Q E) s
section
variable {P : Program} {w : World} {K : PySem.W.Frag} {mg : PySem.Str → Option Value} {base : Heap} {k : Nat} {f : Addr} {q : Addr × Obj}
theorem fn_ofQ {name qual : PySem.Str} {params : Arguments} {body : List Stmt} {scope : Scope} {dV kV doc pm cdv ct oc : Value} {an od : Option Addr} {osl : Array (Option Value)} {N ps : List PySem.Str} {sp : Sp}
    (lk : K.lookup f = some ⟨oc, od, .func (PySem.W.fnOf name qual params body scope dV kV doc pm an cdv ct), osl⟩) (hcd : PySem.W.codeIn K cdv qual = true) (S : FnScope N ps scope) (len : ∀ vs H Q E, sp vs H Q E → vs.length = ps.length)
    (hb : ∀ (A : Around) (outer : List Env) (s : Shared) (H : Hp) (vs : List V) (Q : VK) (E : XK), Hot1 A q → RoomH k (A.deeper (envOfC qual scope s.heap.objs.size f cdv)) → sp vs H Q E →
      ∃ t, PSs (cxH CX0 P w K mg base N qual scope f cdv A outer s H E q) body t ∧ t { nx := fun _ H' => Q .non H', rt := Q } (L2.start N vs) H) :
    FnQ P w K mg base (k + 1) q f (PySem.W.fnOf name qual params body scope dV kV doc pm an cdv ct) ps sp := by
  refine ⟨len, fun A outer s H args us vs Q E hr hot pin e0 bt r h => ?_⟩
  have X := e0.mod.kin.keeps fun b o e => (e0.bs b o e).1
  have lim := e0.mod.nolimit.keeps fun b o e => (e0.bs b o e).1
  refine codeAny_call_function hr.depth (X _ _ lk) rfl S.co S.gen rfl (PySem.W.codeRec_of X hcd) (bt _ _ _ _ ?_)
  refine wpAny_newFunctionEnv_cells S.kind (fun ⟨n, v⟩ hy => ?_) fun env he s1 x => ?_
  · rcases S.par n (List.of_mem_zip hy).1 with z | z
    · exact .inl z
    · exact .inr ⟨z, PySem.W.cellsFrom_some _ _ _ (.inl z)⟩
  · subst he
    refine ⟨lim.keeps x.toInCall.keep, codeAny_func ?_⟩
    obtain ⟨t, ht, hq⟩ := hb A outer s H vs Q E hot (hr.deeper _) h
    have I := inv_startH (CX := CX0) (E := E) S pin e0 (len _ _ _ _ h) r x
    refine wpAny_mono (ht.run [] s1 (L2.start N vs) H _ I hq) (fun fl s' hs => ?_) fun e s' z => z
    cases fl with
    | ret u =>
      obtain ⟨v, σ', G, B, rv, z⟩ := hs
      exact ⟨v, G, B.os, B.bare, B.base, B.hok, rv, z⟩
    | next =>
      obtain ⟨σ', G, B, z⟩ := hs
      exact ⟨V.non, G, B.os, B.bare, B.base, B.hok, rfl, z⟩
    | brk =>
      obtain ⟨_, _, _, z⟩ := hs
      exact z.elim
    | cont =>
      obtain ⟨_, _, _, z⟩ := hs
      exact z.elim
end
section
variable {X : Cx} {k : Nat} {f : Addr} {fd : FuncData} {ps : List PySem.Str} {sp : Sp} {x : PySem.Str} {p pos : Pos} {e : Expr} {es : List Expr} {t : TA} {q : Addr × Obj}
theorem pe_callQ (F : FnQ X.prog X.w X.K X.mg X.base k q f fd ps sp) (hr : RoomH k X.A) (hot : Hot1 X.A q) (hq : q ∈ X.pn) (hg : Gl X x) (hm : X.mg x = some (.ref f)) (hk : PySem.W.keepIn X.K (.ref f) = true) (hb : Binds X.K fd ps [])
    (ha : PA X (e :: es) t) (hdb : (x == ("__debug__" : PySem.Str)) = false := by decide) (he : starEach (e :: es) X.env = (false, eval e X.env) :: starEach es X.env := by rfl) (hpl : (backTo pos (starEach es X.env)).any (·.1) = false := by rfl) :
    PE X (.Call (.Name x p) (e :: es) [] pos) (fun σ H Q => t σ H fun vs H1 => sp vs H1 Q E0) := by
  refine ⟨fun pins s σ H Q I h => ?_⟩
  refine wpAny_Call_Name_kw (ld_glob I hg hm ?_ hdb)
  refine PySem.W.callWith_K (h₀ := X.base) I.ok.mod.kin hk (thn (ha.run pos pins s σ H _ I h) fun us s1 ⟨vs, H1, I1, r, z⟩ => ⟨I1.kIn, ?_⟩) he hpl
  have hl : us.length = ps.length := by
    rw [← r.length]
    exact F.len _ _ _ _ z
  have b := hb s1 us I1.kIn (by rw [List.append_nil]; exact hl)
  rw [List.append_nil] at b
  have P1 := I1.pin q (List.mem_append_left _ hq)
  have pin : PinOk X.stack H1 s1 q := ⟨P1.1, P1.2.1, fun y => (List.mem_cons.mp (I1.stkSub q.1 y)).elim P1.2.2.1 P1.2.2.2.1, P1.2.2.2.2⟩
  show wpAny _ _ (call (.ref f) us) _ _ _
  refine wpAny_call (codeAny_mono (F.run X.A X.stack s1 H1 ⟨us, []⟩ us vs Q E0 hr hot pin I1.env0 b r z) fun y s' hy => ?_)
  cases y with
  | error er => exact False.elim hy
  | ok fl =>
    cases fl with
    | ret u => exact I1.after hy
    | next => exact False.elim hy
    | brk => exact False.elim hy
    | cont => exact False.elim hy
/-- isinstance(e, D) of the error that is handled -/
def rIsQ (K : PySem.W.Frag) (q : Addr × Obj) : List V → Hp → VK → Prop := fun xs H Q => ∃ (C d : Addr) (fs : List (PySem.Str × V)) (c : V) (u : Value) (b : Bool), xs = [.ref q.1, c] ∧ ClsV c u ∧ ExcC K C ∧ q.2.cls = .ref C ∧ q.2.dict = some d ∧ (∃ vs, q.2.data = .fields vs) ∧ H d = some (.xd fs) ∧
  PySem.W.kitOne K (.ref C) u = some b ∧ Q (.bl b) H
theorem call_isQ (hq : q ∈ X.pn) : CallR X (.builtin "isinstance") (rIsQ X.K q) := by
  intro pins s σ H xs us Q I r h
  obtain ⟨C, d, fs, c, u, b, rfl, k, T, e1, e2, ⟨vs, e3⟩, ed, e, z⟩ := h
  obtain ⟨u1, u2, rfl, r1, r2⟩ := vals2 r
  have eu := k.eq r2
  subst eu
  obtain rfl : u1 = Value.ref q.1 := r1
  have P1 := I.pin q (List.mem_append_left _ hq)
  obtain ⟨mA, hn, _⟩ := (show ObjOk X.prog X.w H s.heap d (.xd fs) from I.hok d _ ed)
  obtain ⟨od, ho, _⟩ := lookIn_ns hn
  have J : PySem.W.InstAt s.heap q.1 q.2 C (some od) := ⟨P1.1, e1, by unfold PySem.W.notCls; rw [e3] <;> rfl, by rw [e2]; exact ho⟩
  have c1 : (PySem.W.clsIn X.K C).isSome = true := by
    obtain ⟨cd, y, _⟩ := PySem.W.any_some T.hd
    rw [y] <;> rfl
  exact PySem.W.kia_one (PySem.W.kitx_exc c1 T.hg T.hk T.hs T.ha T.hn T.ht T.hm) I.kIn J e (fun y => nomatch y) fun tk => ⟨.bl b, H, I.tok tk, rfl, z⟩
end
end EV

set_option Elab.async false
set_option linter.all false
set_option maxRecDepth 100000
set_option maxHeartbeats 4000000
namespace EV
open PySem PySem.Spec PyProof.Rows L2 HotX L2H
/-- C(e) about to be raised -/
def tMkN (C : Addr) (f : Str) (te : TE) : L2.St → Hp → XK → Prop := fun σ H Q => te σ H fun v H1 => ∀ d, H1 d = none → Q (.ref C) (some d) (upd H1 d (.xd [(f, v)]))
theorem upd_del {H : Hp} {a d : Addr} {o1 o2 : HO} {x y : HO} (hn : H a = none) (ne : d ≠ a) : upd (del (upd (upd (upd H a o1) d x) a o2) a) d y = upd H d y := by
  funext b
  by_cases z : b = d
  · rw [z, upd_same, upd_same]
  · rw [upd_ne z, upd_ne z]
    by_cases e : b = a
    · rw [e, del_same, hn]
    · rw [del_ne e, upd_ne e, upd_ne z, upd_ne e]
section
variable {X : Cx} {CX : CXT} {C fI : Addr} {f x : Str} {k : Nat} {fd : FuncData} {e : Expr} {te : TE} {p pos : Pos} {E : XK}
theorem pmk_new (T : ErrC X.K C fI f) (F1 : FnOk X.prog X.w X.K X.mg X.base CX k fI fd ["self", f] (spI C f)) (hr : Room (k + 1) X.A)
    (hb : ∀ (s : Shared) (u v : Value), X.K.In s.heap → BindsTo s fd ⟨[u, v], []⟩ [("self", u), (f, v)]) (hx : Passes CX X E) (hg : Gl X x) (hm : X.mg x = some (.ref C)) (he : PE X e te)
    (hdb : (x == ("__debug__" : Str)) = false := by decide) (hs : starEach [e] X.env = (false, eval e X.env) :: starEach [] X.env := by rfl) (hpl : (backTo pos (starEach [] X.env)).any (·.1) = false := by rfl) :
    L2N.PMk X (.Call (.Name x p) [e] [] pos) (tMkN C f te) := by
  intro pins s σ H Q I h
  obtain ⟨nm, q, N, bs, bm, sn, sub, ab, col, dd, k0, k1, k2, k3, k5, hC, hbm⟩ := T.oex.cls
  refine wpAny_Call_Name_kw (ld_glob I hg hm ?_ hdb)
  refine PySem.W.callWith_K (h₀ := X.base) I.ok.mod.kin T.oex.kC ?_ hs hpl
  rw [hs]
  show wpAny _ _ (spliced ((false, eval e X.env) :: backTo pos (starEach [] X.env))) _ _ s
  refine Calls.spliced_cons (thn (he.run pins s σ H _ I h) fun u s1 ⟨v, H1, I1, r1, q1⟩ => ?_)
  refine Calls.spliced_nil ⟨I1.kIn, ?_⟩
  show wpAny _ _ (call (.ref C) [u]) _ _ _
  obtain ⟨hp, g, dr, tk, os⟩ := s1
  have sz : hp.objs.size ≤ hp.objs.size + 1 := Nat.le_succ _
  have n0 : H1 (hp.objs.size + 1) = none := I1.hok.fresh sz
  have k2' : ∀ b o, hp.get? b = some o → ((hp.push (PySem.W.kdv_tup [u])).push (PySem.HandSPX.excO C hp.objs.size)).get? b = some o := fun b o z =>
    Heap.get?_push_of_some _ (Heap.get?_push_of_some _ z)
  have g2 : ((hp.push (PySem.W.kdv_tup [u])).push (PySem.HandSPX.excO C hp.objs.size)).get? (hp.objs.size + 1) = some (PySem.HandSPX.excO C hp.objs.size) := by
    heap_get
  have I2 := I1.laid (t' := tk) (a := hp.objs.size + 1) (o := exo (hp.objs.size + 1) C none) k2' sz (exo_ok g2)
  have hq : spI C f [.ref (hp.objs.size + 1), v] (upd H1 (hp.objs.size + 1) (exo (hp.objs.size + 1) C none)) (fun z H2 => z = .non ∧ ∃ (d : Addr), H2 (hp.objs.size + 1) = some (exo (hp.objs.size + 1) C (some d)) ∧
      H2 d = some (exd d [(f, v)]) ∧ H1 d = none ∧ Q (.ref C) (some d) (upd (del H2 (hp.objs.size + 1)) d (.xd [(f, v)]))) E :=
    ⟨_, v, rfl, upd_same, fun d h1 h2 => ⟨rfl, d, upd_same, by rw [upd_ne h2]; exact upd_same, (fresh2 h1).2, by
      rw [upd_del n0 h2]
      exact q1 d (fresh2 h1).2⟩⟩
  refine wpAny_call (PySem.HandSPX.call_own F.excBase_ValueError (fun Y => PySem.HandSPX.refsVE_contains Y bm hbm) (I1.kIn _ _ hC)
    (PySem.W.looks_findIn I1.kIn T.iC) (fun me => PySem.W.bind_fn I1.kIn me T.tI) (by show 1 ≤ sizeLine; rw [sizeLine_eq]; decide)
    (codeAny_mono (F1.run _ X.stack _ _ ⟨[.ref (hp.objs.size + 1), u], []⟩ [.ref (hp.objs.size + 1), u] [.ref (hp.objs.size + 1), v] _ E (hr.make C [u] []) (I2.env0.make C [u] [])
      (hb _ _ _ I2.kIn) (.cons rfl (.cons r1 .nil)) hq) fun z s' y => ?_))
  cases z with
  | error er => exact hx pins σ _ _ er s' I2 y
  | ok fl =>
    cases fl with
    | ret w' =>
      obtain ⟨v', H2, os2, bare2, un2, hok2, rv, ev, d, ea, ed, hd1, q2⟩ := y
      subst ev
      obtain ⟨h2, g3, d2, t2, os'⟩ := s'
      obtain ⟨t0, G, J, kG, ge, hoe, na⟩ := mk_end0 (d2 := d2) (t2 := t2) I1 sz k2' un2 hok2 os2 bare2 ea ed hd1
      refine ⟨rv, hp.objs.size + 1, _, _, ⟨G, g3, d2, t2, os'⟩, _, .ref C, some d, rfl, J, kG, ge, hoe, ⟨rfl, rfl, fun vs hv => ?_⟩, rfl, rfl, na, rfl, bare2, raises_own T.oex.exC T.oex.tyC, q2⟩
      cases hv
      rfl
    | next => exact False.elim y
    | brk => exact False.elim y
    | cont => exact False.elim y
end
end EV

set_option Elab.async false
set_option linter.all false
set_option maxRecDepth 100000
set_option maxHeartbeats 4000000
namespace K0
open PySem PySem.Spec PyProof.Rows L2 EV He
section
variable {P : Program} {w : World} {K : PySem.W.Frag} {mg : PySem.Str → Option Value} {base : Heap} {fd : FuncData}
abbrev FnI (K : PySem.W.Frag) (x q : PySem.Str) (st : Stmt) (fd : FuncData) : Prop := FunD K "__init__" q (defArgs st) (defBody st) (defScope st) [] [] (ma K (ga K x) "__init__") fd
theorem ini_BadNet (F : FnI K "BadNet" "BadNet.__init__" sI_BadNet fd) (T : Tx K mg) : IniOk P w K mg base ("BadNet", "net") := by
  have o := T.one (p := ("BadNet", "net")) (by decide +kernel)
  have R := err_of o.1 o.2
  have sc : FnScope ["self", "net"] ["self", "net"] (defScope sI_BadNet) := ⟨rfl, rfl, rfl, by decide +kernel, rfl, by decide +kernel, by decide +kernel⟩
  refine ⟨fd, F.ok sc (fun vs H Q E h => by obtain ⟨a, v, rfl, _⟩ := h; rfl) (fun cdv A outer s H vs Q E hr h => ⟨_, PSs.nox (pss_one (ps_ost (pv 0) (pv 1))), ?_⟩), ?_, ?_⟩
  · obtain ⟨a, v, rfl, ha, q⟩ := h
    exact ⟨_, rfl, _, rfl, a, _, rfl, R.oex, R.no, .inl ⟨ha, q⟩⟩
  · exact fun s u v _ => F.bindsA (ps := ["self", "net"]) (fun _ _ _ _ _ _ us hl => match us, hl with | [_, _], _ => rfl) s [u, v] rfl
  · obtain ⟨oc, od, dV, kV, doc, pm, an, cdv, ct, osl, rfl, lk, hcd, hD, hK⟩ := F.ex
    rcases hD with ⟨_, rfl⟩ | ⟨e, _⟩
    · exact fun s u v _ => .of_eq rfl
    · exact absurd rfl e
theorem ini_BadRun (F : FnI K "BadRun" "BadRun.__init__" sI_BadRun fd) (T : Tx K mg) : IniOk P w K mg base ("BadRun", "run") := by
  have o := T.one (p := ("BadRun", "run")) (by decide +kernel)
  have R := err_of o.1 o.2
  have sc : FnScope ["self", "run"] ["self", "run"] (defScope sI_BadRun) := ⟨rfl, rfl, rfl, by decide +kernel, rfl, by decide +kernel, by decide +kernel⟩
  refine ⟨fd, F.ok sc (fun vs H Q E h => by obtain ⟨a, v, rfl, _⟩ := h; rfl) (fun cdv A outer s H vs Q E hr h => ⟨_, PSs.nox (pss_one (ps_ost (pv 0) (pv 1))), ?_⟩), ?_, ?_⟩
  · obtain ⟨a, v, rfl, ha, q⟩ := h
    exact ⟨_, rfl, _, rfl, a, _, rfl, R.oex, R.no, .inl ⟨ha, q⟩⟩
  · exact fun s u v _ => F.bindsA (ps := ["self", "run"]) (fun _ _ _ _ _ _ us hl => match us, hl with | [_, _], _ => rfl) s [u, v] rfl
  · obtain ⟨oc, od, dV, kV, doc, pm, an, cdv, ct, osl, rfl, lk, hcd, hD, hK⟩ := F.ex
    rcases hD with ⟨_, rfl⟩ | ⟨e, _⟩
    · exact fun s u v _ => .of_eq rfl
    · exact absurd rfl e
theorem ini_BadChain (F : FnI K "BadChain" "BadChain.__init__" sI_BadChain fd) (T : Tx K mg) : IniOk P w K mg base ("BadChain", "chain") := by
  have o := T.one (p := ("BadChain", "chain")) (by decide +kernel)
  have R := err_of o.1 o.2
  have sc : FnScope ["self", "chain"] ["self", "chain"] (defScope sI_BadChain) := ⟨rfl, rfl, rfl, by decide +kernel, rfl, by decide +kernel, by decide +kernel⟩
  refine ⟨fd, F.ok sc (fun vs H Q E h => by obtain ⟨a, v, rfl, _⟩ := h; rfl) (fun cdv A outer s H vs Q E hr h => ⟨_, PSs.nox (pss_one (ps_ost (pv 0) (pv 1))), ?_⟩), ?_, ?_⟩
  · obtain ⟨a, v, rfl, ha, q⟩ := h
    exact ⟨_, rfl, _, rfl, a, _, rfl, R.oex, R.no, .inl ⟨ha, q⟩⟩
  · exact fun s u v _ => F.bindsA (ps := ["self", "chain"]) (fun _ _ _ _ _ _ us hl => match us, hl with | [_, _], _ => rfl) s [u, v] rfl
  · obtain ⟨oc, od, dV, kV, doc, pm, an, cdv, ct, osl, rfl, lk, hcd, hD, hK⟩ := F.ex
    rcases hD with ⟨_, rfl⟩ | ⟨e, _⟩
    · exact fun s u v _ => .of_eq rfl
    · exact absurd rfl e
theorem ini_BadMany (F : FnI K "BadMany" "BadMany.__init__" sI_BadMany fd) (T : Tx K mg) : IniOk P w K mg base ("BadMany", "many") := by
  have o := T.one (p := ("BadMany", "many")) (by decide +kernel)
  have R := err_of o.1 o.2
  have sc : FnScope ["self", "many"] ["self", "many"] (defScope sI_BadMany) := ⟨rfl, rfl, rfl, by decide +kernel, rfl, by decide +kernel, by decide +kernel⟩
  refine ⟨fd, F.ok sc (fun vs H Q E h => by obtain ⟨a, v, rfl, _⟩ := h; rfl) (fun cdv A outer s H vs Q E hr h => ⟨_, PSs.nox (pss_one (ps_ost (pv 0) (pv 1))), ?_⟩), ?_, ?_⟩
  · obtain ⟨a, v, rfl, ha, q⟩ := h
    exact ⟨_, rfl, _, rfl, a, _, rfl, R.oex, R.no, .inl ⟨ha, q⟩⟩
  · exact fun s u v _ => F.bindsA (ps := ["self", "many"]) (fun _ _ _ _ _ _ us hl => match us, hl with | [_, _], _ => rfl) s [u, v] rfl
  · obtain ⟨oc, od, dV, kV, doc, pm, an, cdv, ct, osl, rfl, lk, hcd, hD, hK⟩ := F.ex
    rcases hD with ⟨_, rfl⟩ | ⟨e, _⟩
    · exact fun s u v _ => .of_eq rfl
    · exact absurd rfl e
theorem ini_BadNumber (F : FnI K "BadNumber" "BadNumber.__init__" sI_BadNumber fd) (T : Tx K mg) : IniOk P w K mg base ("BadNumber", "number") := by
  have o := T.one (p := ("BadNumber", "number")) (by decide +kernel)
  have R := err_of o.1 o.2
  have sc : FnScope ["self", "number"] ["self", "number"] (defScope sI_BadNumber) := ⟨rfl, rfl, rfl, by decide +kernel, rfl, by decide +kernel, by decide +kernel⟩
  refine ⟨fd, F.ok sc (fun vs H Q E h => by obtain ⟨a, v, rfl, _⟩ := h; rfl) (fun cdv A outer s H vs Q E hr h => ⟨_, PSs.nox (pss_one (ps_ost (pv 0) (pv 1))), ?_⟩), ?_, ?_⟩
  · obtain ⟨a, v, rfl, ha, q⟩ := h
    exact ⟨_, rfl, _, rfl, a, _, rfl, R.oex, R.no, .inl ⟨ha, q⟩⟩
  · exact fun s u v _ => F.bindsA (ps := ["self", "number"]) (fun _ _ _ _ _ _ us hl => match us, hl with | [_, _], _ => rfl) s [u, v] rfl
  · obtain ⟨oc, od, dV, kV, doc, pm, an, cdv, ct, osl, rfl, lk, hcd, hD, hK⟩ := F.ex
    rcases hD with ⟨_, rfl⟩ | ⟨e, _⟩
    · exact fun s u v _ => .of_eq rfl
    · exact absurd rfl e
theorem ini_BadCell (F : FnI K "BadCell" "BadCell.__init__" sI_BadCell fd) (T : Tx K mg) : IniOk P w K mg base ("BadCell", "cell") := by
  have o := T.one (p := ("BadCell", "cell")) (by decide +kernel)
  have R := err_of o.1 o.2
  have sc : FnScope ["self", "cell"] ["self", "cell"] (defScope sI_BadCell) := ⟨rfl, rfl, rfl, by decide +kernel, rfl, by decide +kernel, by decide +kernel⟩
  refine ⟨fd, F.ok sc (fun vs H Q E h => by obtain ⟨a, v, rfl, _⟩ := h; rfl) (fun cdv A outer s H vs Q E hr h => ⟨_, PSs.nox (pss_one (ps_ost (pv 0) (pv 1))), ?_⟩), ?_, ?_⟩
  · obtain ⟨a, v, rfl, ha, q⟩ := h
    exact ⟨_, rfl, _, rfl, a, _, rfl, R.oex, R.no, .inl ⟨ha, q⟩⟩
  · exact fun s u v _ => F.bindsA (ps := ["self", "cell"]) (fun _ _ _ _ _ _ us hl => match us, hl with | [_, _], _ => rfl) s [u, v] rfl
  · obtain ⟨oc, od, dV, kV, doc, pm, an, cdv, ct, osl, rfl, lk, hcd, hD, hK⟩ := F.ex
    rcases hD with ⟨_, rfl⟩ | ⟨e, _⟩
    · exact fun s u v _ => .of_eq rfl
    · exact absurd rfl e
theorem ini_BadCube (F : FnI K "BadCube" "BadCube.__init__" sI_BadCube fd) (T : Tx K mg) : IniOk P w K mg base ("BadCube", "cube") := by
  have o := T.one (p := ("BadCube", "cube")) (by decide +kernel)
  have R := err_of o.1 o.2
  have sc : FnScope ["self", "cube"] ["self", "cube"] (defScope sI_BadCube) := ⟨rfl, rfl, rfl, by decide +kernel, rfl, by decide +kernel, by decide +kernel⟩
  refine ⟨fd, F.ok sc (fun vs H Q E h => by obtain ⟨a, v, rfl, _⟩ := h; rfl) (fun cdv A outer s H vs Q E hr h => ⟨_, PSs.nox (pss_one (ps_ost (pv 0) (pv 1))), ?_⟩), ?_, ?_⟩
  · obtain ⟨a, v, rfl, ha, q⟩ := h
    exact ⟨_, rfl, _, rfl, a, _, rfl, R.oex, R.no, .inl ⟨ha, q⟩⟩
  · exact fun s u v _ => F.bindsA (ps := ["self", "cube"]) (fun _ _ _ _ _ _ us hl => match us, hl with | [_, _], _ => rfl) s [u, v] rfl
  · obtain ⟨oc, od, dV, kV, doc, pm, an, cdv, ct, osl, rfl, lk, hcd, hD, hK⟩ := F.ex
    rcases hD with ⟨_, rfl⟩ | ⟨e, _⟩
    · exact fun s u v _ => .of_eq rfl
    · exact absurd rfl e
theorem ini_BadOther (F : FnI K "BadOther" "BadOther.__init__" sI_BadOther fd) (T : Tx K mg) : IniOk P w K mg base ("BadOther", "other") := by
  have o := T.one (p := ("BadOther", "other")) (by decide +kernel)
  have R := err_of o.1 o.2
  have sc : FnScope ["self", "other"] ["self", "other"] (defScope sI_BadOther) := ⟨rfl, rfl, rfl, by decide +kernel, rfl, by decide +kernel, by decide +kernel⟩
  refine ⟨fd, F.ok sc (fun vs H Q E h => by obtain ⟨a, v, rfl, _⟩ := h; rfl) (fun cdv A outer s H vs Q E hr h => ⟨_, PSs.nox (pss_one (ps_ost (pv 0) (pv 1))), ?_⟩), ?_, ?_⟩
  · obtain ⟨a, v, rfl, ha, q⟩ := h
    exact ⟨_, rfl, _, rfl, a, _, rfl, R.oex, R.no, .inl ⟨ha, q⟩⟩
  · exact fun s u v _ => F.bindsA (ps := ["self", "other"]) (fun _ _ _ _ _ _ us hl => match us, hl with | [_, _], _ => rfl) s [u, v] rfl
  · obtain ⟨oc, od, dV, kV, doc, pm, an, cdv, ct, osl, rfl, lk, hcd, hD, hK⟩ := F.ex
    rcases hD with ⟨_, rfl⟩ | ⟨e, _⟩
    · exact fun s u v _ => .of_eq rfl
    · exact absurd rfl e
theorem ini_BadCubes (F : FnI K "BadCubes" "BadCubes.__init__" sI_BadCubes fd) (T : Tx K mg) : IniOk P w K mg base ("BadCubes", "index") := by
  have o := T.one (p := ("BadCubes", "index")) (by decide +kernel)
  have R := err_of o.1 o.2
  have sc : FnScope ["self", "index"] ["self", "index"] (defScope sI_BadCubes) := ⟨rfl, rfl, rfl, by decide +kernel, rfl, by decide +kernel, by decide +kernel⟩
  refine ⟨fd, F.ok sc (fun vs H Q E h => by obtain ⟨a, v, rfl, _⟩ := h; rfl) (fun cdv A outer s H vs Q E hr h => ⟨_, PSs.nox (pss_one (ps_ost (pv 0) (pv 1))), ?_⟩), ?_, ?_⟩
  · obtain ⟨a, v, rfl, ha, q⟩ := h
    exact ⟨_, rfl, _, rfl, a, _, rfl, R.oex, R.no, .inl ⟨ha, q⟩⟩
  · exact fun s u v _ => F.bindsA (ps := ["self", "index"]) (fun _ _ _ _ _ _ us hl => match us, hl with | [_, _], _ => rfl) s [u, v] rfl
  · obtain ⟨oc, od, dV, kV, doc, pm, an, cdv, ct, osl, rfl, lk, hcd, hD, hK⟩ := F.ex
    rcases hD with ⟨_, rfl⟩ | ⟨e, _⟩
    · exact fun s u v _ => .of_eq rfl
    · exact absurd rfl e
theorem ini_BadLevers (F : FnI K "BadLevers" "BadLevers.__init__" sI_BadLevers fd) (T : Tx K mg) : IniOk P w K mg base ("BadLevers", "index") := by
  have o := T.one (p := ("BadLevers", "index")) (by decide +kernel)
  have R := err_of o.1 o.2
  have sc : FnScope ["self", "index"] ["self", "index"] (defScope sI_BadLevers) := ⟨rfl, rfl, rfl, by decide +kernel, rfl, by decide +kernel, by decide +kernel⟩
  refine ⟨fd, F.ok sc (fun vs H Q E h => by obtain ⟨a, v, rfl, _⟩ := h; rfl) (fun cdv A outer s H vs Q E hr h => ⟨_, PSs.nox (pss_one (ps_ost (pv 0) (pv 1))), ?_⟩), ?_, ?_⟩
  · obtain ⟨a, v, rfl, ha, q⟩ := h
    exact ⟨_, rfl, _, rfl, a, _, rfl, R.oex, R.no, .inl ⟨ha, q⟩⟩
  · exact fun s u v _ => F.bindsA (ps := ["self", "index"]) (fun _ _ _ _ _ _ us hl => match us, hl with | [_, _], _ => rfl) s [u, v] rfl
  · obtain ⟨oc, od, dV, kV, doc, pm, an, cdv, ct, osl, rfl, lk, hcd, hD, hK⟩ := F.ex
    rcases hD with ⟨_, rfl⟩ | ⟨e, _⟩
    · exact fun s u v _ => .of_eq rfl
    · exact absurd rfl e
theorem ini_BadTable (F : FnI K "BadTable" "BadTable.__init__" sI_BadTable fd) (T : Tx K mg) : IniOk P w K mg base ("BadTable", "index") := by
  have o := T.one (p := ("BadTable", "index")) (by decide +kernel)
  have R := err_of o.1 o.2
  have sc : FnScope ["self", "index"] ["self", "index"] (defScope sI_BadTable) := ⟨rfl, rfl, rfl, by decide +kernel, rfl, by decide +kernel, by decide +kernel⟩
  refine ⟨fd, F.ok sc (fun vs H Q E h => by obtain ⟨a, v, rfl, _⟩ := h; rfl) (fun cdv A outer s H vs Q E hr h => ⟨_, PSs.nox (pss_one (ps_ost (pv 0) (pv 1))), ?_⟩), ?_, ?_⟩
  · obtain ⟨a, v, rfl, ha, q⟩ := h
    exact ⟨_, rfl, _, rfl, a, _, rfl, R.oex, R.no, .inl ⟨ha, q⟩⟩
  · exact fun s u v _ => F.bindsA (ps := ["self", "index"]) (fun _ _ _ _ _ _ us hl => match us, hl with | [_, _], _ => rfl) s [u, v] rfl
  · obtain ⟨oc, od, dV, kV, doc, pm, an, cdv, ct, osl, rfl, lk, hcd, hD, hK⟩ := F.ex
    rcases hD with ⟨_, rfl⟩ | ⟨e, _⟩
    · exact fun s u v _ => .of_eq rfl
    · exact absurd rfl e
theorem ini_BadBursts (F : FnI K "BadBursts" "BadBursts.__init__" sI_BadBursts fd) (T : Tx K mg) : IniOk P w K mg base ("BadBursts", "index") := by
  have o := T.one (p := ("BadBursts", "index")) (by decide +kernel)
  have R := err_of o.1 o.2
  have sc : FnScope ["self", "index"] ["self", "index"] (defScope sI_BadBursts) := ⟨rfl, rfl, rfl, by decide +kernel, rfl, by decide +kernel, by decide +kernel⟩
  refine ⟨fd, F.ok sc (fun vs H Q E h => by obtain ⟨a, v, rfl, _⟩ := h; rfl) (fun cdv A outer s H vs Q E hr h => ⟨_, PSs.nox (pss_one (ps_ost (pv 0) (pv 1))), ?_⟩), ?_, ?_⟩
  · obtain ⟨a, v, rfl, ha, q⟩ := h
    exact ⟨_, rfl, _, rfl, a, _, rfl, R.oex, R.no, .inl ⟨ha, q⟩⟩
  · exact fun s u v _ => F.bindsA (ps := ["self", "index"]) (fun _ _ _ _ _ _ us hl => match us, hl with | [_, _], _ => rfl) s [u, v] rfl
  · obtain ⟨oc, od, dV, kV, doc, pm, an, cdv, ct, osl, rfl, lk, hcd, hD, hK⟩ := F.ex
    rcases hD with ⟨_, rfl⟩ | ⟨e, _⟩
    · exact fun s u v _ => .of_eq rfl
    · exact absurd rfl e
theorem ini_BadPanel (F : FnI K "BadPanel" "BadPanel.__init__" sI_BadPanel fd) (T : Tx K mg) : IniOk P w K mg base ("BadPanel", "panel") := by
  have o := T.one (p := ("BadPanel", "panel")) (by decide +kernel)
  have R := err_of o.1 o.2
  have sc : FnScope ["self", "panel"] ["self", "panel"] (defScope sI_BadPanel) := ⟨rfl, rfl, rfl, by decide +kernel, rfl, by decide +kernel, by decide +kernel⟩
  refine ⟨fd, F.ok sc (fun vs H Q E h => by obtain ⟨a, v, rfl, _⟩ := h; rfl) (fun cdv A outer s H vs Q E hr h => ⟨_, PSs.nox (pss_one (ps_ost (pv 0) (pv 1))), ?_⟩), ?_, ?_⟩
  · obtain ⟨a, v, rfl, ha, q⟩ := h
    exact ⟨_, rfl, _, rfl, a, _, rfl, R.oex, R.no, .inl ⟨ha, q⟩⟩
  · exact fun s u v _ => F.bindsA (ps := ["self", "panel"]) (fun _ _ _ _ _ _ us hl => match us, hl with | [_, _], _ => rfl) s [u, v] rfl
  · obtain ⟨oc, od, dV, kV, doc, pm, an, cdv, ct, osl, rfl, lk, hcd, hD, hK⟩ := F.ex
    rcases hD with ⟨_, rfl⟩ | ⟨e, _⟩
    · exact fun s u v _ => .of_eq rfl
    · exact absurd rfl e
theorem ini_BadIndex (F : FnI K "BadIndex" "BadIndex.__init__" sI_BadIndex fd) (T : Tx K mg) : IniOk P w K mg base ("BadIndex", "index") := by
  have o := T.one (p := ("BadIndex", "index")) (by decide +kernel)
  have R := err_of o.1 o.2
  have sc : FnScope ["self", "index"] ["self", "index"] (defScope sI_BadIndex) := ⟨rfl, rfl, rfl, by decide +kernel, rfl, by decide +kernel, by decide +kernel⟩
  refine ⟨fd, F.ok sc (fun vs H Q E h => by obtain ⟨a, v, rfl, _⟩ := h; rfl) (fun cdv A outer s H vs Q E hr h => ⟨_, PSs.nox (pss_one (ps_ost (pv 0) (pv 1))), ?_⟩), ?_, ?_⟩
  · obtain ⟨a, v, rfl, ha, q⟩ := h
    exact ⟨_, rfl, _, rfl, a, _, rfl, R.oex, R.no, .inl ⟨ha, q⟩⟩
  · exact fun s u v _ => F.bindsA (ps := ["self", "index"]) (fun _ _ _ _ _ _ us hl => match us, hl with | [_, _], _ => rfl) s [u, v] rfl
  · obtain ⟨oc, od, dV, kV, doc, pm, an, cdv, ct, osl, rfl, lk, hcd, hD, hK⟩ := F.ex
    rcases hD with ⟨_, rfl⟩ | ⟨e, _⟩
    · exact fun s u v _ => .of_eq rfl
    · exact absurd rfl e
theorem ini_BadSign (F : FnI K "BadSign" "BadSign.__init__" sI_BadSign fd) (T : Tx K mg) : IniOk P w K mg base ("BadSign", "sign") := by
  have o := T.one (p := ("BadSign", "sign")) (by decide +kernel)
  have R := err_of o.1 o.2
  have sc : FnScope ["self", "sign"] ["self", "sign"] (defScope sI_BadSign) := ⟨rfl, rfl, rfl, by decide +kernel, rfl, by decide +kernel, by decide +kernel⟩
  refine ⟨fd, F.ok sc (fun vs H Q E h => by obtain ⟨a, v, rfl, _⟩ := h; rfl) (fun cdv A outer s H vs Q E hr h => ⟨_, PSs.nox (pss_one (ps_ost (pv 0) (pv 1))), ?_⟩), ?_, ?_⟩
  · obtain ⟨a, v, rfl, ha, q⟩ := h
    exact ⟨_, rfl, _, rfl, a, _, rfl, R.oex, R.no, .inl ⟨ha, q⟩⟩
  · exact fun s u v _ => F.bindsA (ps := ["self", "sign"]) (fun _ _ _ _ _ _ us hl => match us, hl with | [_, _], _ => rfl) s [u, v] rfl
  · obtain ⟨oc, od, dV, kV, doc, pm, an, cdv, ct, osl, rfl, lk, hcd, hD, hK⟩ := F.ex
    rcases hD with ⟨_, rfl⟩ | ⟨e, _⟩
    · exact fun s u v _ => .of_eq rfl
    · exact absurd rfl e
theorem ini_BadOn (F : FnI K "BadOn" "BadOn.__init__" sI_BadOn fd) (T : Tx K mg) : IniOk P w K mg base ("BadOn", "index") := by
  have o := T.one (p := ("BadOn", "index")) (by decide +kernel)
  have R := err_of o.1 o.2
  have sc : FnScope ["self", "index"] ["self", "index"] (defScope sI_BadOn) := ⟨rfl, rfl, rfl, by decide +kernel, rfl, by decide +kernel, by decide +kernel⟩
  refine ⟨fd, F.ok sc (fun vs H Q E h => by obtain ⟨a, v, rfl, _⟩ := h; rfl) (fun cdv A outer s H vs Q E hr h => ⟨_, PSs.nox (pss_one (ps_ost (pv 0) (pv 1))), ?_⟩), ?_, ?_⟩
  · obtain ⟨a, v, rfl, ha, q⟩ := h
    exact ⟨_, rfl, _, rfl, a, _, rfl, R.oex, R.no, .inl ⟨ha, q⟩⟩
  · exact fun s u v _ => F.bindsA (ps := ["self", "index"]) (fun _ _ _ _ _ _ us hl => match us, hl with | [_, _], _ => rfl) s [u, v] rfl
  · obtain ⟨oc, od, dV, kV, doc, pm, an, cdv, ct, osl, rfl, lk, hcd, hD, hK⟩ := F.ex
    rcases hD with ⟨_, rfl⟩ | ⟨e, _⟩
    · exact fun s u v _ => .of_eq rfl
    · exact absurd rfl e
theorem ini_BadOff (F : FnI K "BadOff" "BadOff.__init__" sI_BadOff fd) (T : Tx K mg) : IniOk P w K mg base ("BadOff", "index") := by
  have o := T.one (p := ("BadOff", "index")) (by decide +kernel)
  have R := err_of o.1 o.2
  have sc : FnScope ["self", "index"] ["self", "index"] (defScope sI_BadOff) := ⟨rfl, rfl, rfl, by decide +kernel, rfl, by decide +kernel, by decide +kernel⟩
  refine ⟨fd, F.ok sc (fun vs H Q E h => by obtain ⟨a, v, rfl, _⟩ := h; rfl) (fun cdv A outer s H vs Q E hr h => ⟨_, PSs.nox (pss_one (ps_ost (pv 0) (pv 1))), ?_⟩), ?_, ?_⟩
  · obtain ⟨a, v, rfl, ha, q⟩ := h
    exact ⟨_, rfl, _, rfl, a, _, rfl, R.oex, R.no, .inl ⟨ha, q⟩⟩
  · exact fun s u v _ => F.bindsA (ps := ["self", "index"]) (fun _ _ _ _ _ _ us hl => match us, hl with | [_, _], _ => rfl) s [u, v] rfl
  · obtain ⟨oc, od, dV, kV, doc, pm, an, cdv, ct, osl, rfl, lk, hcd, hD, hK⟩ := F.ex
    rcases hD with ⟨_, rfl⟩ | ⟨e, _⟩
    · exact fun s u v _ => .of_eq rfl
    · exact absurd rfl e
theorem ini_BadClash (F : FnI K "BadClash" "BadClash.__init__" sI_BadClash fd) (T : Tx K mg) : IniOk P w K mg base ("BadClash", "cell") := by
  have o := T.one (p := ("BadClash", "cell")) (by decide +kernel)
  have R := err_of o.1 o.2
  have sc : FnScope ["self", "cell"] ["self", "cell"] (defScope sI_BadClash) := ⟨rfl, rfl, rfl, by decide +kernel, rfl, by decide +kernel, by decide +kernel⟩
  refine ⟨fd, F.ok sc (fun vs H Q E h => by obtain ⟨a, v, rfl, _⟩ := h; rfl) (fun cdv A outer s H vs Q E hr h => ⟨_, PSs.nox (pss_one (ps_ost (pv 0) (pv 1))), ?_⟩), ?_, ?_⟩
  · obtain ⟨a, v, rfl, ha, q⟩ := h
    exact ⟨_, rfl, _, rfl, a, _, rfl, R.oex, R.no, .inl ⟨ha, q⟩⟩
  · exact fun s u v _ => F.bindsA (ps := ["self", "cell"]) (fun _ _ _ _ _ _ us hl => match us, hl with | [_, _], _ => rfl) s [u, v] rfl
  · obtain ⟨oc, od, dV, kV, doc, pm, an, cdv, ct, osl, rfl, lk, hcd, hD, hK⟩ := F.ex
    rcases hD with ⟨_, rfl⟩ | ⟨e, _⟩
    · exact fun s u v _ => .of_eq rfl
    · exact absurd rfl e
theorem ini_BadPanelText (F : FnI K "BadPanelText" "BadPanelText.__init__" sI_BadPanelText fd) (T : Tx K mg) : IniOk P w K mg base ("BadPanelText", "line") := by
  have o := T.one (p := ("BadPanelText", "line")) (by decide +kernel)
  have R := err_of o.1 o.2
  have sc : FnScope ["self", "line"] ["self", "line"] (defScope sI_BadPanelText) := ⟨rfl, rfl, rfl, by decide +kernel, rfl, by decide +kernel, by decide +kernel⟩
  refine ⟨fd, F.ok sc (fun vs H Q E h => by obtain ⟨a, v, rfl, _⟩ := h; rfl) (fun cdv A outer s H vs Q E hr h => ⟨_, PSs.nox (pss_one (ps_ost (pv 0) (pv 1))), ?_⟩), ?_, ?_⟩
  · obtain ⟨a, v, rfl, ha, q⟩ := h
    exact ⟨_, rfl, _, rfl, a, _, rfl, R.oex, R.no, .inl ⟨ha, q⟩⟩
  · exact fun s u v _ => F.bindsA (ps := ["self", "line"]) (fun _ _ _ _ _ _ us hl => match us, hl with | [_, _], _ => rfl) s [u, v] rfl
  · obtain ⟨oc, od, dV, kV, doc, pm, an, cdv, ct, osl, rfl, lk, hcd, hD, hK⟩ := F.ex
    rcases hD with ⟨_, rfl⟩ | ⟨e, _⟩
    · exact fun s u v _ => .of_eq rfl
    · exact absurd rfl e
theorem ini_BadPath (F : FnI K "BadPath" "BadPath.__init__" sI_BadPath fd) (T : Tx K mg) : IniOk P w K mg base ("BadPath", "path") := by
  have o := T.one (p := ("BadPath", "path")) (by decide +kernel)
  have R := err_of o.1 o.2
  have sc : FnScope ["self", "path"] ["self", "path"] (defScope sI_BadPath) := ⟨rfl, rfl, rfl, by decide +kernel, rfl, by decide +kernel, by decide +kernel⟩
  refine ⟨fd, F.ok sc (fun vs H Q E h => by obtain ⟨a, v, rfl, _⟩ := h; rfl) (fun cdv A outer s H vs Q E hr h => ⟨_, PSs.nox (pss_one (ps_ost (pv 0) (pv 1))), ?_⟩), ?_, ?_⟩
  · obtain ⟨a, v, rfl, ha, q⟩ := h
    exact ⟨_, rfl, _, rfl, a, _, rfl, R.oex, R.no, .inl ⟨ha, q⟩⟩
  · exact fun s u v _ => F.bindsA (ps := ["self", "path"]) (fun _ _ _ _ _ _ us hl => match us, hl with | [_, _], _ => rfl) s [u, v] rfl
  · obtain ⟨oc, od, dV, kV, doc, pm, an, cdv, ct, osl, rfl, lk, hcd, hD, hK⟩ := F.ex
    rcases hD with ⟨_, rfl⟩ | ⟨e, _⟩
    · exact fun s u v _ => .of_eq rfl
    · exact absurd rfl e
theorem ini_BadStep (F : FnI K "BadStep" "BadStep.__init__" sI_BadStep fd) (T : Tx K mg) : IniOk P w K mg base ("BadStep", "step") := by
  have o := T.one (p := ("BadStep", "step")) (by decide +kernel)
  have R := err_of o.1 o.2
  have sc : FnScope ["self", "step"] ["self", "step"] (defScope sI_BadStep) := ⟨rfl, rfl, rfl, by decide +kernel, rfl, by decide +kernel, by decide +kernel⟩
  refine ⟨fd, F.ok sc (fun vs H Q E h => by obtain ⟨a, v, rfl, _⟩ := h; rfl) (fun cdv A outer s H vs Q E hr h => ⟨_, PSs.nox (pss_one (ps_ost (pv 0) (pv 1))), ?_⟩), ?_, ?_⟩
  · obtain ⟨a, v, rfl, ha, q⟩ := h
    exact ⟨_, rfl, _, rfl, a, _, rfl, R.oex, R.no, .inl ⟨ha, q⟩⟩
  · exact fun s u v _ => F.bindsA (ps := ["self", "step"]) (fun _ _ _ _ _ _ us hl => match us, hl with | [_, _], _ => rfl) s [u, v] rfl
  · obtain ⟨oc, od, dV, kV, doc, pm, an, cdv, ct, osl, rfl, lk, hcd, hD, hK⟩ := F.ex
    rcases hD with ⟨_, rfl⟩ | ⟨e, _⟩
    · exact fun s u v _ => .of_eq rfl
    · exact absurd rfl e
theorem ini_BadSteps (F : FnI K "BadSteps" "BadSteps.__init__" sI_BadSteps fd) (T : Tx K mg) : IniOk P w K mg base ("BadSteps", "index") := by
  have o := T.one (p := ("BadSteps", "index")) (by decide +kernel)
  have R := err_of o.1 o.2
  have sc : FnScope ["self", "index"] ["self", "index"] (defScope sI_BadSteps) := ⟨rfl, rfl, rfl, by decide +kernel, rfl, by decide +kernel, by decide +kernel⟩
  refine ⟨fd, F.ok sc (fun vs H Q E h => by obtain ⟨a, v, rfl, _⟩ := h; rfl) (fun cdv A outer s H vs Q E hr h => ⟨_, PSs.nox (pss_one (ps_ost (pv 0) (pv 1))), ?_⟩), ?_, ?_⟩
  · obtain ⟨a, v, rfl, ha, q⟩ := h
    exact ⟨_, rfl, _, rfl, a, _, rfl, R.oex, R.no, .inl ⟨ha, q⟩⟩
  · exact fun s u v _ => F.bindsA (ps := ["self", "index"]) (fun _ _ _ _ _ _ us hl => match us, hl with | [_, _], _ => rfl) s [u, v] rfl
  · obtain ⟨oc, od, dV, kV, doc, pm, an, cdv, ct, osl, rfl, lk, hcd, hD, hK⟩ := F.ex
    rcases hD with ⟨_, rfl⟩ | ⟨e, _⟩
    · exact fun s u v _ => .of_eq rfl
    · exact absurd rfl e
theorem ini_BadMachine (F : FnI K "BadMachine" "BadMachine.__init__" sI_BadMachine fd) (T : Tx K mg) : IniOk P w K mg base ("BadMachine", "machine") := by
  have o := T.one (p := ("BadMachine", "machine")) (by decide +kernel)
  have R := err_of o.1 o.2
  have sc : FnScope ["self", "machine"] ["self", "machine"] (defScope sI_BadMachine) := ⟨rfl, rfl, rfl, by decide +kernel, rfl, by decide +kernel, by decide +kernel⟩
  refine ⟨fd, F.ok sc (fun vs H Q E h => by obtain ⟨a, v, rfl, _⟩ := h; rfl) (fun cdv A outer s H vs Q E hr h => ⟨_, PSs.nox (pss_one (ps_ost (pv 0) (pv 1))), ?_⟩), ?_, ?_⟩
  · obtain ⟨a, v, rfl, ha, q⟩ := h
    exact ⟨_, rfl, _, rfl, a, _, rfl, R.oex, R.no, .inl ⟨ha, q⟩⟩
  · exact fun s u v _ => F.bindsA (ps := ["self", "machine"]) (fun _ _ _ _ _ _ us hl => match us, hl with | [_, _], _ => rfl) s [u, v] rfl
  · obtain ⟨oc, od, dV, kV, doc, pm, an, cdv, ct, osl, rfl, lk, hcd, hD, hK⟩ := F.ex
    rcases hD with ⟨_, rfl⟩ | ⟨e, _⟩
    · exact fun s u v _ => .of_eq rfl
    · exact absurd rfl e
theorem ini_BadLamps (F : FnI K "BadLamps" "BadLamps.__init__" sI_BadLamps fd) (T : Tx K mg) : IniOk P w K mg base ("BadLamps", "index") := by
  have o := T.one (p := ("BadLamps", "index")) (by decide +kernel)
  have R := err_of o.1 o.2
  have sc : FnScope ["self", "index"] ["self", "index"] (defScope sI_BadLamps) := ⟨rfl, rfl, rfl, by decide +kernel, rfl, by decide +kernel, by decide +kernel⟩
  refine ⟨fd, F.ok sc (fun vs H Q E h => by obtain ⟨a, v, rfl, _⟩ := h; rfl) (fun cdv A outer s H vs Q E hr h => ⟨_, PSs.nox (pss_one (ps_ost (pv 0) (pv 1))), ?_⟩), ?_, ?_⟩
  · obtain ⟨a, v, rfl, ha, q⟩ := h
    exact ⟨_, rfl, _, rfl, a, _, rfl, R.oex, R.no, .inl ⟨ha, q⟩⟩
  · exact fun s u v _ => F.bindsA (ps := ["self", "index"]) (fun _ _ _ _ _ _ us hl => match us, hl with | [_, _], _ => rfl) s [u, v] rfl
  · obtain ⟨oc, od, dV, kV, doc, pm, an, cdv, ct, osl, rfl, lk, hcd, hD, hK⟩ := F.ex
    rcases hD with ⟨_, rfl⟩ | ⟨e, _⟩
    · exact fun s u v _ => .of_eq rfl
    · exact absurd rfl e
theorem ini_BadStates (F : FnI K "BadStates" "BadStates.__init__" sI_BadStates fd) (T : Tx K mg) : IniOk P w K mg base ("BadStates", "index") := by
  have o := T.one (p := ("BadStates", "index")) (by decide +kernel)
  have R := err_of o.1 o.2
  have sc : FnScope ["self", "index"] ["self", "index"] (defScope sI_BadStates) := ⟨rfl, rfl, rfl, by decide +kernel, rfl, by decide +kernel, by decide +kernel⟩
  refine ⟨fd, F.ok sc (fun vs H Q E h => by obtain ⟨a, v, rfl, _⟩ := h; rfl) (fun cdv A outer s H vs Q E hr h => ⟨_, PSs.nox (pss_one (ps_ost (pv 0) (pv 1))), ?_⟩), ?_, ?_⟩
  · obtain ⟨a, v, rfl, ha, q⟩ := h
    exact ⟨_, rfl, _, rfl, a, _, rfl, R.oex, R.no, .inl ⟨ha, q⟩⟩
  · exact fun s u v _ => F.bindsA (ps := ["self", "index"]) (fun _ _ _ _ _ _ us hl => match us, hl with | [_, _], _ => rfl) s [u, v] rfl
  · obtain ⟨oc, od, dV, kV, doc, pm, an, cdv, ct, osl, rfl, lk, hcd, hD, hK⟩ := F.ex
    rcases hD with ⟨_, rfl⟩ | ⟨e, _⟩
    · exact fun s u v _ => .of_eq rfl
    · exact absurd rfl e
theorem ini_BadMoves (F : FnI K "BadMoves" "BadMoves.__init__" sI_BadMoves fd) (T : Tx K mg) : IniOk P w K mg base ("BadMoves", "index") := by
  have o := T.one (p := ("BadMoves", "index")) (by decide +kernel)
  have R := err_of o.1 o.2
  have sc : FnScope ["self", "index"] ["self", "index"] (defScope sI_BadMoves) := ⟨rfl, rfl, rfl, by decide +kernel, rfl, by decide +kernel, by decide +kernel⟩
  refine ⟨fd, F.ok sc (fun vs H Q E h => by obtain ⟨a, v, rfl, _⟩ := h; rfl) (fun cdv A outer s H vs Q E hr h => ⟨_, PSs.nox (pss_one (ps_ost (pv 0) (pv 1))), ?_⟩), ?_, ?_⟩
  · obtain ⟨a, v, rfl, ha, q⟩ := h
    exact ⟨_, rfl, _, rfl, a, _, rfl, R.oex, R.no, .inl ⟨ha, q⟩⟩
  · exact fun s u v _ => F.bindsA (ps := ["self", "index"]) (fun _ _ _ _ _ _ us hl => match us, hl with | [_, _], _ => rfl) s [u, v] rfl
  · obtain ⟨oc, od, dV, kV, doc, pm, an, cdv, ct, osl, rfl, lk, hcd, hD, hK⟩ := F.ex
    rcases hD with ⟨_, rfl⟩ | ⟨e, _⟩
    · exact fun s u v _ => .of_eq rfl
    · exact absurd rfl e
theorem ini_BadName (F : FnI K "BadName" "BadName.__init__" sI_BadName fd) (T : Tx K mg) : IniOk P w K mg base ("BadName", "name") := by
  have o := T.one (p := ("BadName", "name")) (by decide +kernel)
  have R := err_of o.1 o.2
  have sc : FnScope ["self", "name"] ["self", "name"] (defScope sI_BadName) := ⟨rfl, rfl, rfl, by decide +kernel, rfl, by decide +kernel, by decide +kernel⟩
  refine ⟨fd, F.ok sc (fun vs H Q E h => by obtain ⟨a, v, rfl, _⟩ := h; rfl) (fun cdv A outer s H vs Q E hr h => ⟨_, PSs.nox (pss_one (ps_ost (pv 0) (pv 1))), ?_⟩), ?_, ?_⟩
  · obtain ⟨a, v, rfl, ha, q⟩ := h
    exact ⟨_, rfl, _, rfl, a, _, rfl, R.oex, R.no, .inl ⟨ha, q⟩⟩
  · exact fun s u v _ => F.bindsA (ps := ["self", "name"]) (fun _ _ _ _ _ _ us hl => match us, hl with | [_, _], _ => rfl) s [u, v] rfl
  · obtain ⟨oc, od, dV, kV, doc, pm, an, cdv, ct, osl, rfl, lk, hcd, hD, hK⟩ := F.ex
    rcases hD with ⟨_, rfl⟩ | ⟨e, _⟩
    · exact fun s u v _ => .of_eq rfl
    · exact absurd rfl e
theorem ini_BadWalk (F : FnI K "BadWalk" "BadWalk.__init__" sI_BadWalk fd) (T : Tx K mg) : IniOk P w K mg base ("BadWalk", "index") := by
  have o := T.one (p := ("BadWalk", "index")) (by decide +kernel)
  have R := err_of o.1 o.2
  have sc : FnScope ["self", "index"] ["self", "index"] (defScope sI_BadWalk) := ⟨rfl, rfl, rfl, by decide +kernel, rfl, by decide +kernel, by decide +kernel⟩
  refine ⟨fd, F.ok sc (fun vs H Q E h => by obtain ⟨a, v, rfl, _⟩ := h; rfl) (fun cdv A outer s H vs Q E hr h => ⟨_, PSs.nox (pss_one (ps_ost (pv 0) (pv 1))), ?_⟩), ?_, ?_⟩
  · obtain ⟨a, v, rfl, ha, q⟩ := h
    exact ⟨_, rfl, _, rfl, a, _, rfl, R.oex, R.no, .inl ⟨ha, q⟩⟩
  · exact fun s u v _ => F.bindsA (ps := ["self", "index"]) (fun _ _ _ _ _ _ us hl => match us, hl with | [_, _], _ => rfl) s [u, v] rfl
  · obtain ⟨oc, od, dV, kV, doc, pm, an, cdv, ct, osl, rfl, lk, hcd, hD, hK⟩ := F.ex
    rcases hD with ⟨_, rfl⟩ | ⟨e, _⟩
    · exact fun s u v _ => .of_eq rfl
    · exact absurd rfl e
theorem ini_BadMachineText (F : FnI K "BadMachineText" "BadMachineText.__init__" sI_BadMachineText fd) (T : Tx K mg) : IniOk P w K mg base ("BadMachineText", "line") := by
  have o := T.one (p := ("BadMachineText", "line")) (by decide +kernel)
  have R := err_of o.1 o.2
  have sc : FnScope ["self", "line"] ["self", "line"] (defScope sI_BadMachineText) := ⟨rfl, rfl, rfl, by decide +kernel, rfl, by decide +kernel, by decide +kernel⟩
  refine ⟨fd, F.ok sc (fun vs H Q E h => by obtain ⟨a, v, rfl, _⟩ := h; rfl) (fun cdv A outer s H vs Q E hr h => ⟨_, PSs.nox (pss_one (ps_ost (pv 0) (pv 1))), ?_⟩), ?_, ?_⟩
  · obtain ⟨a, v, rfl, ha, q⟩ := h
    exact ⟨_, rfl, _, rfl, a, _, rfl, R.oex, R.no, .inl ⟨ha, q⟩⟩
  · exact fun s u v _ => F.bindsA (ps := ["self", "line"]) (fun _ _ _ _ _ _ us hl => match us, hl with | [_, _], _ => rfl) s [u, v] rfl
  · obtain ⟨oc, od, dV, kV, doc, pm, an, cdv, ct, osl, rfl, lk, hcd, hD, hK⟩ := F.ex
    rcases hD with ⟨_, rfl⟩ | ⟨e, _⟩
    · exact fun s u v _ => .of_eq rfl
    · exact absurd rfl e
theorem ini_BadCode (F : FnI K "BadCode" "BadCode.__init__" sI_BadCode fd) (T : Tx K mg) : IniOk P w K mg base ("BadCode", "code") := by
  have o := T.one (p := ("BadCode", "code")) (by decide +kernel)
  have R := err_of o.1 o.2
  have sc : FnScope ["self", "code"] ["self", "code"] (defScope sI_BadCode) := ⟨rfl, rfl, rfl, by decide +kernel, rfl, by decide +kernel, by decide +kernel⟩
  refine ⟨fd, F.ok sc (fun vs H Q E h => by obtain ⟨a, v, rfl, _⟩ := h; rfl) (fun cdv A outer s H vs Q E hr h => ⟨_, PSs.nox (pss_one (ps_ost (pv 0) (pv 1))), ?_⟩), ?_, ?_⟩
  · obtain ⟨a, v, rfl, ha, q⟩ := h
    exact ⟨_, rfl, _, rfl, a, _, rfl, R.oex, R.no, .inl ⟨ha, q⟩⟩
  · exact fun s u v _ => F.bindsA (ps := ["self", "code"]) (fun _ _ _ _ _ _ us hl => match us, hl with | [_, _], _ => rfl) s [u, v] rfl
  · obtain ⟨oc, od, dV, kV, doc, pm, an, cdv, ct, osl, rfl, lk, hcd, hD, hK⟩ := F.ex
    rcases hD with ⟨_, rfl⟩ | ⟨e, _⟩
    · exact fun s u v _ => .of_eq rfl
    · exact absurd rfl e
theorem ini_BadMove (F : FnI K "BadMove" "BadMove.__init__" sI_BadMove fd) (T : Tx K mg) : IniOk P w K mg base ("BadMove", "move") := by
  have o := T.one (p := ("BadMove", "move")) (by decide +kernel)
  have R := err_of o.1 o.2
  have sc : FnScope ["self", "move"] ["self", "move"] (defScope sI_BadMove) := ⟨rfl, rfl, rfl, by decide +kernel, rfl, by decide +kernel, by decide +kernel⟩
  refine ⟨fd, F.ok sc (fun vs H Q E h => by obtain ⟨a, v, rfl, _⟩ := h; rfl) (fun cdv A outer s H vs Q E hr h => ⟨_, PSs.nox (pss_one (ps_ost (pv 0) (pv 1))), ?_⟩), ?_, ?_⟩
  · obtain ⟨a, v, rfl, ha, q⟩ := h
    exact ⟨_, rfl, _, rfl, a, _, rfl, R.oex, R.no, .inl ⟨ha, q⟩⟩
  · exact fun s u v _ => F.bindsA (ps := ["self", "move"]) (fun _ _ _ _ _ _ us hl => match us, hl with | [_, _], _ => rfl) s [u, v] rfl
  · obtain ⟨oc, od, dV, kV, doc, pm, an, cdv, ct, osl, rfl, lk, hcd, hD, hK⟩ := F.ex
    rcases hD with ⟨_, rfl⟩ | ⟨e, _⟩
    · exact fun s u v _ => .of_eq rfl
    · exact absurd rfl e
theorem ini_BadNets (F : FnI K "BadNets" "BadNets.__init__" sI_BadNets fd) (T : Tx K mg) : IniOk P w K mg base ("BadNets", "nets") := by
  have o := T.one (p := ("BadNets", "nets")) (by decide +kernel)
  have R := err_of o.1 o.2
  have sc : FnScope ["self", "nets"] ["self", "nets"] (defScope sI_BadNets) := ⟨rfl, rfl, rfl, by decide +kernel, rfl, by decide +kernel, by decide +kernel⟩
  refine ⟨fd, F.ok sc (fun vs H Q E h => by obtain ⟨a, v, rfl, _⟩ := h; rfl) (fun cdv A outer s H vs Q E hr h => ⟨_, PSs.nox (pss_one (ps_ost (pv 0) (pv 1))), ?_⟩), ?_, ?_⟩
  · obtain ⟨a, v, rfl, ha, q⟩ := h
    exact ⟨_, rfl, _, rfl, a, _, rfl, R.oex, R.no, .inl ⟨ha, q⟩⟩
  · exact fun s u v _ => F.bindsA (ps := ["self", "nets"]) (fun _ _ _ _ _ _ us hl => match us, hl with | [_, _], _ => rfl) s [u, v] rfl
  · obtain ⟨oc, od, dV, kV, doc, pm, an, cdv, ct, osl, rfl, lk, hcd, hD, hK⟩ := F.ex
    rcases hD with ⟨_, rfl⟩ | ⟨e, _⟩
    · exact fun s u v _ => .of_eq rfl
    · exact absurd rfl e
theorem ini_BadRuns (F : FnI K "BadRuns" "BadRuns.__init__" sI_BadRuns fd) (T : Tx K mg) : IniOk P w K mg base ("BadRuns", "index") := by
  have o := T.one (p := ("BadRuns", "index")) (by decide +kernel)
  have R := err_of o.1 o.2
  have sc : FnScope ["self", "index"] ["self", "index"] (defScope sI_BadRuns) := ⟨rfl, rfl, rfl, by decide +kernel, rfl, by decide +kernel, by decide +kernel⟩
  refine ⟨fd, F.ok sc (fun vs H Q E h => by obtain ⟨a, v, rfl, _⟩ := h; rfl) (fun cdv A outer s H vs Q E hr h => ⟨_, PSs.nox (pss_one (ps_ost (pv 0) (pv 1))), ?_⟩), ?_, ?_⟩
  · obtain ⟨a, v, rfl, ha, q⟩ := h
    exact ⟨_, rfl, _, rfl, a, _, rfl, R.oex, R.no, .inl ⟨ha, q⟩⟩
  · exact fun s u v _ => F.bindsA (ps := ["self", "index"]) (fun _ _ _ _ _ _ us hl => match us, hl with | [_, _], _ => rfl) s [u, v] rfl
  · obtain ⟨oc, od, dV, kV, doc, pm, an, cdv, ct, osl, rfl, lk, hcd, hD, hK⟩ := F.ex
    rcases hD with ⟨_, rfl⟩ | ⟨e, _⟩
    · exact fun s u v _ => .of_eq rfl
    · exact absurd rfl e
theorem ini_BadLog (F : FnI K "BadLog" "BadLog.__init__" sI_BadLog fd) (T : Tx K mg) : IniOk P w K mg base ("BadLog", "log") := by
  have o := T.one (p := ("BadLog", "log")) (by decide +kernel)
  have R := err_of o.1 o.2
  have sc : FnScope ["self", "log"] ["self", "log"] (defScope sI_BadLog) := ⟨rfl, rfl, rfl, by decide +kernel, rfl, by decide +kernel, by decide +kernel⟩
  refine ⟨fd, F.ok sc (fun vs H Q E h => by obtain ⟨a, v, rfl, _⟩ := h; rfl) (fun cdv A outer s H vs Q E hr h => ⟨_, PSs.nox (pss_one (ps_ost (pv 0) (pv 1))), ?_⟩), ?_, ?_⟩
  · obtain ⟨a, v, rfl, ha, q⟩ := h
    exact ⟨_, rfl, _, rfl, a, _, rfl, R.oex, R.no, .inl ⟨ha, q⟩⟩
  · exact fun s u v _ => F.bindsA (ps := ["self", "log"]) (fun _ _ _ _ _ _ us hl => match us, hl with | [_, _], _ => rfl) s [u, v] rfl
  · obtain ⟨oc, od, dV, kV, doc, pm, an, cdv, ct, osl, rfl, lk, hcd, hD, hK⟩ := F.ex
    rcases hD with ⟨_, rfl⟩ | ⟨e, _⟩
    · exact fun s u v _ => .of_eq rfl
    · exact absurd rfl e
theorem ini_BadLogText (F : FnI K "BadLogText" "BadLogText.__init__" sI_BadLogText fd) (T : Tx K mg) : IniOk P w K mg base ("BadLogText", "line") := by
  have o := T.one (p := ("BadLogText", "line")) (by decide +kernel)
  have R := err_of o.1 o.2
  have sc : FnScope ["self", "line"] ["self", "line"] (defScope sI_BadLogText) := ⟨rfl, rfl, rfl, by decide +kernel, rfl, by decide +kernel, by decide +kernel⟩
  refine ⟨fd, F.ok sc (fun vs H Q E h => by obtain ⟨a, v, rfl, _⟩ := h; rfl) (fun cdv A outer s H vs Q E hr h => ⟨_, PSs.nox (pss_one (ps_ost (pv 0) (pv 1))), ?_⟩), ?_, ?_⟩
  · obtain ⟨a, v, rfl, ha, q⟩ := h
    exact ⟨_, rfl, _, rfl, a, _, rfl, R.oex, R.no, .inl ⟨ha, q⟩⟩
  · exact fun s u v _ => F.bindsA (ps := ["self", "line"]) (fun _ _ _ _ _ _ us hl => match us, hl with | [_, _], _ => rfl) s [u, v] rfl
  · obtain ⟨oc, od, dV, kV, doc, pm, an, cdv, ct, osl, rfl, lk, hcd, hD, hK⟩ := F.ex
    rcases hD with ⟨_, rfl⟩ | ⟨e, _⟩
    · exact fun s u v _ => .of_eq rfl
    · exact absurd rfl e
end
end K0

set_option Elab.async false
set_option linter.all false
set_option maxRecDepth 100000
set_option maxHeartbeats 4000000
namespace K0
open PySem PySem.Spec PyProof.Rows L2 EV He HotX L2H
def kgP0 : List PySem.Str := ["BadMany", "BadNumber", "BadCell", "BadCube"]
def kgP1 : List PySem.Str := ["BadOther", "BadCubes", "BadLevers", "BadTable"]
def kgP2 : List PySem.Str := ["BadBursts", "BadPanel", "BadIndex", "BadSign"]
def kgP3 : List PySem.Str := ["BadOn", "BadOff", "BadClash", "BadPanelText"]
def kgP4 : List PySem.Str := ["BadPath", "BadStep", "BadSteps"]
def knP : List PySem.Str := kgP0 ++ kgP1 ++ kgP2 ++ kgP3 ++ kgP4
def kgM0 : List PySem.Str := ["BadMachine", "BadLamps", "BadStates", "BadMoves"]
def kgM1 : List PySem.Str := ["BadName", "BadWalk", "BadMachineText", "BadCode"]
def kgM2 : List PySem.Str := ["BadMove", "BadNets", "BadRuns", "BadLog"]
def kgM3 : List PySem.Str := ["BadLogText"]
def knM : List PySem.Str := kgM0 ++ kgM1 ++ kgM2 ++ kgM3
def kn : List PySem.Str := knP ++ knM
def bit (x y : PySem.Str) : Bool := decide (x = y) || decide (y = pE)
def bs (L : List PySem.Str) (x : PySem.Str) : List Bool := L.map (bit x)
/-- the places of the list L that are x, told from o on -/
def kinO (L : List PySem.Str) (o : Int) (x : PySem.Str) : List Int := ((List.range L.length).filter fun k => (bs L x).getD k false).map fun (k : Nat) => o + (k : Int)
def kin (x : PySem.Str) : List Int := kinO knP 0 x ++ kinO knM 19 x
/-- such a def's promise -/
def spKi (kf : PySem.Str → List Int) (K : PySem.W.Frag) : Sp := fun vs H Q _ => ∃ (a : Addr) (x : PySem.Str), vs = [.ref a] ∧ x ∈ names ∧ IsEr H a (ga K x) ∧ ∀ p H', Same H H' → H p = none → H' p = some (.lst ((kf x).map V.int)) → Q (.ref p) H'
/-- the same, of the error that is handled: at a, its class, its dict -/
def spKiQ (kf : PySem.Str → List Int) (K : PySem.W.Frag) (a : Addr) (c : Value) (d : Option Addr) : Sp := fun vs H Q _ => ∃ (x : PySem.Str) (dd : Addr) (fs : List (PySem.Str × V)), vs = [.ref a] ∧ x ∈ names ∧ c = .ref (ga K x) ∧ d = some dd ∧ H dd = some (.xd fs) ∧
  ∀ p H', Same H H' → H p = none → H' p = some (.lst ((kf x).map V.int)) → Q (.ref p) H'
theorem isEr_same {H H' : Hp} {a C : Addr} (h : IsEr H a C) (s : Same H H') : IsEr H' a C := by
  rcases h with h | ⟨d, fs, h, hd⟩
  · exact .inl (s _ _ h)
  · exact .inr ⟨d, fs, s _ _ h, s _ _ hd⟩
theorem same_new {H : Hp} {p : Addr} {o : HO} (h : H p = none) : Same H (upd H p o) := fun b u e => by
  rw [upd_ne (ne_of_none e h)]
  exact e
/-- a write at what H does not know -/
theorem same_wr {H H' : Hp} {p : Addr} {o : HO} (s : Same H H') (h : H p = none) : Same H (upd H' p o) := fun b u e => by
  rw [upd_ne (ne_of_none e h)]
  exact s b u e
theorem filter_snoc (f : Nat → Bool) (i : Nat) : (List.range (i + 1)).filter f = if f i = true then (List.range i).filter f ++ [i] else (List.range i).filter f := by
  rw [List.range_succ, List.filter_append]
  by_cases h : f i = true
  · rw [if_pos h, List.filter_cons_of_pos h]
    rfl
  · rw [if_neg h, List.filter_cons_of_neg h]
    simp
abbrev Is := List V → Hp → VK → Prop
def tIss (r : Is) (K : PySem.W.Frag) : List PySem.Str → TA
  | [] => tNil
  | y :: l => tCons (tCB r (tCons (tVar 0) (tCons (tC (.ref (ga K y))) tNil))) (tIss r K l)
/-- the test r tells of v, an x, what it is, wherever H stands -/
def Tells (r : Is) (K : PySem.W.Frag) (H : Hp) (v : V) (x : PySem.Str) : Prop := ∀ H', Same H H' → ∀ y ∈ names, ∀ Q : VK, Q (.bl (bit x y)) H' → r [v, .ref (ga K y)] H' Q
/-- the list that grows: at l, new, so many told -/
structure KS (J : List PySem.Str) (H : Hp) (x : PySem.Str) (l : Addr) (H1 : Hp) (n : Nat) : Prop where
  same : Same H H1
  new : H l = none
  told : H1 l = some (.lst (((bs J x).take n).map V.bl))
section
variable {K : PySem.W.Frag} {J : List PySem.Str} {r : Is} {H H1 : Hp} {v : V} {x : PySem.Str} {σ : L2.St} {l : Addr} {n : Nat} {D : Ends}
theorem rd_iss (h : Tells r K H v x) (s : Same H H1) (hv : σ[0]? = some (some v)) : ∀ (L : List PySem.Str) {Q : List V → Hp → Prop}, (∀ y ∈ L, y ∈ names) → Q (L.map fun y => V.bl (bit x y)) H1 → tIss r K L σ H1 Q
  | [], Q, _, q => q
  | y :: L, Q, hL, q => ⟨v, hv, h H1 s y (hL y List.mem_cons_self) _ (rd_iss h s hv L (fun z hz => hL z (List.mem_cons_of_mem _ hz)) q)⟩
theorem kx_first (h : Tells r K H v x) (hv : σ[0]? = some (some v)) (L : List PySem.Str) (hL : ∀ y ∈ L, y ∈ names) (hl : L.length ≤ 30) (e : (bs J x).take L.length = L.map (bit x)) (k : ∀ l H2, KS J H x l H2 L.length → D.nx (σ.set 1 (some (.ref l))) H2) :
    tAsg (tLst (tIss r K L)) (gName 1) D σ H := by
  refine rd_iss h (Same.refl H) hv L hL ⟨?_, fun l nl => k l _ ⟨same_new nl, nl, ?_⟩⟩
  · rw [List.length_map]
    exact Nat.le_trans hl (by decide)
  · rw [upd_same, e, List.map_map]
    rfl
theorem kx_more (h : Tells r K H v x) (hv : σ[0]? = some (some v)) (hs : σ[1]? = some (some (.ref l))) (st : KS J H x l H1 n) (L : List PySem.Str) (hL : ∀ y ∈ L, y ∈ names) (hl : n + L.length ≤ 30) (e : (bs J x).take (n + L.length) = (bs J x).take n ++ L.map (bit x))
    (k : ∀ H2, KS J H x l H2 (n + L.length) → D.nx σ H2) : tDrop (tBM K "list" rExtend (tVar 1) (tCons (tLst (tIss r K L)) tNil)) D σ H1 := by
  obtain ⟨s, nw, tl⟩ := st
  refine ⟨_, hs, .inl ⟨rfl, _, SqL.of tl⟩, rd_iss h s hv L hL ⟨?_, fun b nb => ⟨l, b, _, _, rfl, rfl, same_new nb _ _ tl, upd_same, ?_, ?_⟩⟩⟩
  · rw [List.length_map]
    exact Nat.le_trans (by omega : L.length ≤ 30) (by decide)
  · rw [List.length_map, List.length_map, List.length_take]
    exact Nat.le_trans (by omega : _ ≤ 30) (by decide)
  · refine k _ ⟨same_wr (s.trans (same_new nb)) nw, nw, ?_⟩
    rw [upd_same, e, List.map_append, List.map_map]
    rfl
end
section
variable {P : Program} {w : World} {K : PySem.W.Frag} {mg : PySem.Str → Option Value} {base : Heap} {f f1 f2 : Addr} {fd d1 d2 : FuncData}
theorem boot_isinstance : bootBuiltins "isinstance" = some (.builtin "isinstance") := by decide +kernel
theorem kn_names : ∀ y ∈ kn, y ∈ names := by decide +kernel
theorem tells_er (T : Tx K mg) {H : Hp} {a : Addr} {x : PySem.Str} (hx : x ∈ names) (he : IsEr H a (ga K x)) : Tells (rIsEr K) K H (.ref a) x := fun H' s y hy Q q =>
  ⟨a, ga K x, _, _, _, rfl, .own _, excC_of T.cb (T.exc hx), isEr_same he s, T.kit hx hy, q⟩
theorem tells_q (T : Tx K mg) {H : Hp} {q : Addr × Obj} {x : PySem.Str} {dd : Addr} {fs : List (PySem.Str × V)} (hx : x ∈ names) (e1 : q.2.cls = .ref (ga K x)) (e2 : q.2.dict = some dd) (e3 : ∃ vs, q.2.data = .fields vs) (ed : H dd = some (.xd fs)) :
    Tells (rIsQ K q) K H (.ref q.1) x := fun H' s y hy Q z => ⟨ga K x, dd, fs, _, _, _, rfl, .own _, excC_of T.cb (T.exc hx), e1, e2, e3, s _ _ ed, T.kit hx hy, z⟩
theorem scP : FnScope ["e", "told", "k"] ["e"] (defScope s_law_panel_kinds) := ⟨rfl, rfl, rfl, by decide +kernel, rfl, by decide +kernel, by decide +kernel⟩
theorem kx_lastP {H H1 : Hp} {x : PySem.Str} {v : V} {l : Addr} {Q : VK} (st : KS knP H x l H1 19) (k : ∀ p H', Same H H' → H p = none → H' p = some (.lst ((kinO knP 0 x).map V.int)) → Q (.ref p) H') {te : TE}
    (ht : ∀ (i : Nat) (H : Hp) (Q : VK), Q (.int (0 + (i : Int))) H → te [some v, some (.ref l), some (.int (0 + (i : Int)))] H Q) :
    tLc (iRng1 (tCons (tC (.int 19)) tNil)) (gName 2) (tB (tOp (rIxL K) (tVar 1) (tVar 2))) te [2] [some v, some (.ref l), none] H1 Q := by
  obtain ⟨s3, l0, tl0⟩ := st
  have tl : H1 l = some (.lst ((bs knP x).map V.bl)) := tl0
  refine ⟨19, rfl, by decide, by decide, fun D hD => ?_⟩
  have hD0 : H D = none := s3.free hD
  have lD : l ≠ D := ne_of_none tl hD
  refine lc_range (lo := 0) (n := 19) (fun i H' => Same H H' ∧ H' l = some (.lst ((bs knP x).map V.bl)) ∧ H' D = some (.lst ((((List.range i).filter fun k => (bs knP x).getD k false).map fun (k : Nat) => 0 + (k : Int)).map V.int)))
    ⟨same_wr s3 hD0, by rw [upd_ne lD]; exact tl, upd_same⟩ ?_ ?_
  · rintro i H' hi ⟨q1, q2, q3⟩
    refine ⟨rfl, _, rfl, _, rfl, _, _, _, _, rfl, rfl, SqL.of q2, (by rw [Int.zero_add]; exact atI_nat (by rw [List.getElem?_map, List.getElem?_eq_getElem (by show i < 19; exact hi)]; rfl)), _, rfl, ?_⟩
    have eg : (bs knP x)[i]'(by show i < 19; exact hi) = (bs knP x).getD i false := by
      rw [List.getD_eq_getElem?_getD, List.getElem?_eq_getElem (by show i < 19; exact hi)]
      rfl
    rw [eg]
    cases c : (bs knP x).getD i false with
    | true =>
      refine iteT (ht i _ _ ⟨_, q3, ?_, same_wr q1 hD0, (by rw [upd_ne lD]; exact q2), ?_⟩)
      · refine Nat.lt_of_le_of_lt ?_ (by decide : 19 < sizeLine)
        rw [List.length_map, List.length_map]
        exact Nat.le_trans (List.length_filter_le _ _) (by rw [List.length_range]; omega)
      · rw [upd_same, filter_snoc, if_pos c, List.map_append, List.map_append]
        rfl
    | false =>
      refine iteF ⟨q1, q2, ?_⟩
      rw [q3, filter_snoc, if_neg (by rw [c]; decide)]
  · rintro H' ⟨q1, q2, q3⟩
    exact k D H' q1 hD0 q3
theorem ok_kindsP (F : FnP K "_law_panel_kinds" s_law_panel_kinds f fd) (T : Tx K mg) : FnOk P w K mg base CX0 1 f fd ["e"] (spKi (kinO knP 0) K) := by
  refine F.ok scP (fun vs H Q E h => by obtain ⟨a, x, rfl, _⟩ := h; rfl) (fun cdv A outer s H vs Q E hr h => ⟨_, PSs.nox
    (pss_cons (ps_set (i := 1) scP.nd rfl (Or.inr rfl) (pe_lst (pa_cons (pe_callB call_isEr (by rfl) (T.fr "isinstance" (by decide +kernel)) boot_isinstance (pa_cons (pv 0) (pa_cons (pe_glob (v := .ref (ga K "BadMany")) (by rfl) (T.gb (x := "BadMany") (by decide +kernel)) rfl) pa_nil))) (pa_cons (pe_callB call_isEr (by rfl) (T.fr "isinstance" (by decide +kernel)) boot_isinstance (pa_cons (pv 0) (pa_cons (pe_glob (v := .ref (ga K "BadNumber")) (by rfl) (T.gb (x := "BadNumber") (by decide +kernel)) rfl) pa_nil))) (pa_cons (pe_callB call_isEr (by rfl) (T.fr "isinstance" (by decide +kernel)) boot_isinstance (pa_cons (pv 0) (pa_cons (pe_glob (v := .ref (ga K "BadCell")) (by rfl) (T.gb (x := "BadCell") (by decide +kernel)) rfl) pa_nil))) (pa_cons (pe_callB call_isEr (by rfl) (T.fr "isinstance" (by decide +kernel)) boot_isinstance (pa_cons (pv 0) (pa_cons (pe_glob (v := .ref (ga K "BadCube")) (by rfl) (T.gb (x := "BadCube") (by decide +kernel)) rfl) pa_nil))) pa_nil))))))
    (pss_cons (ps_expr (pe_bm PySem.F.plainAttrs_list PySem.F.slot_list_extend PySem.F.type_list_extend mt_extend (pv 1) (pa_cons (pe_lst (pa_cons (pe_callB call_isEr (by rfl) (T.fr "isinstance" (by decide +kernel)) boot_isinstance (pa_cons (pv 0) (pa_cons (pe_glob (v := .ref (ga K "BadOther")) (by rfl) (T.gb (x := "BadOther") (by decide +kernel)) rfl) pa_nil))) (pa_cons (pe_callB call_isEr (by rfl) (T.fr "isinstance" (by decide +kernel)) boot_isinstance (pa_cons (pv 0) (pa_cons (pe_glob (v := .ref (ga K "BadCubes")) (by rfl) (T.gb (x := "BadCubes") (by decide +kernel)) rfl) pa_nil))) (pa_cons (pe_callB call_isEr (by rfl) (T.fr "isinstance" (by decide +kernel)) boot_isinstance (pa_cons (pv 0) (pa_cons (pe_glob (v := .ref (ga K "BadLevers")) (by rfl) (T.gb (x := "BadLevers") (by decide +kernel)) rfl) pa_nil))) (pa_cons (pe_callB call_isEr (by rfl) (T.fr "isinstance" (by decide +kernel)) boot_isinstance (pa_cons (pv 0) (pa_cons (pe_glob (v := .ref (ga K "BadTable")) (by rfl) (T.gb (x := "BadTable") (by decide +kernel)) rfl) pa_nil))) pa_nil))))) pa_nil)))
    (pss_cons (ps_expr (pe_bm PySem.F.plainAttrs_list PySem.F.slot_list_extend PySem.F.type_list_extend mt_extend (pv 1) (pa_cons (pe_lst (pa_cons (pe_callB call_isEr (by rfl) (T.fr "isinstance" (by decide +kernel)) boot_isinstance (pa_cons (pv 0) (pa_cons (pe_glob (v := .ref (ga K "BadBursts")) (by rfl) (T.gb (x := "BadBursts") (by decide +kernel)) rfl) pa_nil))) (pa_cons (pe_callB call_isEr (by rfl) (T.fr "isinstance" (by decide +kernel)) boot_isinstance (pa_cons (pv 0) (pa_cons (pe_glob (v := .ref (ga K "BadPanel")) (by rfl) (T.gb (x := "BadPanel") (by decide +kernel)) rfl) pa_nil))) (pa_cons (pe_callB call_isEr (by rfl) (T.fr "isinstance" (by decide +kernel)) boot_isinstance (pa_cons (pv 0) (pa_cons (pe_glob (v := .ref (ga K "BadIndex")) (by rfl) (T.gb (x := "BadIndex") (by decide +kernel)) rfl) pa_nil))) (pa_cons (pe_callB call_isEr (by rfl) (T.fr "isinstance" (by decide +kernel)) boot_isinstance (pa_cons (pv 0) (pa_cons (pe_glob (v := .ref (ga K "BadSign")) (by rfl) (T.gb (x := "BadSign") (by decide +kernel)) rfl) pa_nil))) pa_nil))))) pa_nil)))
    (pss_cons (ps_expr (pe_bm PySem.F.plainAttrs_list PySem.F.slot_list_extend PySem.F.type_list_extend mt_extend (pv 1) (pa_cons (pe_lst (pa_cons (pe_callB call_isEr (by rfl) (T.fr "isinstance" (by decide +kernel)) boot_isinstance (pa_cons (pv 0) (pa_cons (pe_glob (v := .ref (ga K "BadOn")) (by rfl) (T.gb (x := "BadOn") (by decide +kernel)) rfl) pa_nil))) (pa_cons (pe_callB call_isEr (by rfl) (T.fr "isinstance" (by decide +kernel)) boot_isinstance (pa_cons (pv 0) (pa_cons (pe_glob (v := .ref (ga K "BadOff")) (by rfl) (T.gb (x := "BadOff") (by decide +kernel)) rfl) pa_nil))) (pa_cons (pe_callB call_isEr (by rfl) (T.fr "isinstance" (by decide +kernel)) boot_isinstance (pa_cons (pv 0) (pa_cons (pe_glob (v := .ref (ga K "BadClash")) (by rfl) (T.gb (x := "BadClash") (by decide +kernel)) rfl) pa_nil))) (pa_cons (pe_callB call_isEr (by rfl) (T.fr "isinstance" (by decide +kernel)) boot_isinstance (pa_cons (pv 0) (pa_cons (pe_glob (v := .ref (ga K "BadPanelText")) (by rfl) (T.gb (x := "BadPanelText") (by decide +kernel)) rfl) pa_nil))) pa_nil))))) pa_nil)))
    (pss_cons (ps_expr (pe_bm PySem.F.plainAttrs_list PySem.F.slot_list_extend PySem.F.type_list_extend mt_extend (pv 1) (pa_cons (pe_lst (pa_cons (pe_callB call_isEr (by rfl) (T.fr "isinstance" (by decide +kernel)) boot_isinstance (pa_cons (pv 0) (pa_cons (pe_glob (v := .ref (ga K "BadPath")) (by rfl) (T.gb (x := "BadPath") (by decide +kernel)) rfl) pa_nil))) (pa_cons (pe_callB call_isEr (by rfl) (T.fr "isinstance" (by decide +kernel)) boot_isinstance (pa_cons (pv 0) (pa_cons (pe_glob (v := .ref (ga K "BadStep")) (by rfl) (T.gb (x := "BadStep") (by decide +kernel)) rfl) pa_nil))) (pa_cons (pe_callB call_isEr (by rfl) (T.fr "isinstance" (by decide +kernel)) boot_isinstance (pa_cons (pv 0) (pa_cons (pe_glob (v := .ref (ga K "BadSteps")) (by rfl) (T.gb (x := "BadSteps") (by decide +kernel)) rfl) pa_nil))) pa_nil)))) pa_nil)))
    (pss_one (ps_ret (pe_lc (own := [("k", 2)]) (g := gName 2) (tt := tB (tOp (rIxL K) (tVar 1) (tVar 2))) rfl scP.nd (pi_range1 (by rfl) (T.fr "range" (by decide +kernel)) (pa_cons pe_int pa_nil)) (blkOk_by (N := ["e", "told", "k"]) (sc := defScope s_law_panel_kinds) (by decide +kernel))
      (fun _ _ _ _ _ => pg_name (i := 2) scP.nd rfl (Or.inl rfl)) (fun _ _ _ _ _ => pts_one (pt_val (pe_ix (r := rIxL K) ix_list (pv 1) (pv 2) (fun _ _ => rfl)))) (fun _ _ _ _ _ => pe_op op_add pe_int (pv 2)))))))))), ?_⟩)
  obtain ⟨a, x, rfl, hx, he, k⟩ := h
  refine kx_first (J := knP) (x := x) (tells_er T hx he) rfl kgP0 (by decide +kernel) (by decide) rfl fun l H0 s0 => ?_
  refine kx_more (J := knP) (x := x) (tells_er T hx he) rfl rfl s0 kgP1 (by decide +kernel) (by decide) rfl fun H1 s1 => ?_
  refine kx_more (J := knP) (x := x) (tells_er T hx he) rfl rfl s1 kgP2 (by decide +kernel) (by decide) rfl fun H2 s2 => ?_
  refine kx_more (J := knP) (x := x) (tells_er T hx he) rfl rfl s2 kgP3 (by decide +kernel) (by decide) rfl fun H3 s3 => ?_
  refine kx_more (J := knP) (x := x) (tells_er T hx he) rfl rfl s3 kgP4 (by decide +kernel) (by decide) rfl fun H4 s4 => ?_
  exact kx_lastP s4 k fun i H Q q => ⟨_, rfl, _, _, rfl, rfl, by rw [Int.zero_add]; exact q⟩
theorem ok_kindsPQ (F : FnP K "_law_panel_kinds" s_law_panel_kinds f fd) (T : Tx K mg) {q : Addr × Obj} {c : Value} {d : Option Addr} (e1 : q.2.cls = c) (e2 : q.2.dict = d) (e3 : ∃ vs, q.2.data = .fields vs) : FnQ P w K mg base 1 q f fd ["e"] (spKiQ (kinO knP 0) K q.1 c d) := by
  obtain ⟨oc, od, dV, kV, doc, pm, an, cdv, ct, osl, rfl, lk, hcd, _, _⟩ := F.ex
  refine fn_ofQ lk hcd scP (fun vs H Q E h => by obtain ⟨x, dd, fs, rfl, _⟩ := h; rfl) fun A outer s H vs Q E hot hr h => ⟨_,
    (pss_cons (ps_set (i := 1) scP.nd rfl (Or.inr rfl) (pe_lst (pa_cons (pe_callB (call_isQ (List.mem_singleton.mpr rfl)) (by rfl) (T.fr "isinstance" (by decide +kernel)) boot_isinstance (pa_cons (pv 0) (pa_cons (pe_glob (v := .ref (ga K "BadMany")) (by rfl) (T.gb (x := "BadMany") (by decide +kernel)) rfl) pa_nil))) (pa_cons (pe_callB (call_isQ (List.mem_singleton.mpr rfl)) (by rfl) (T.fr "isinstance" (by decide +kernel)) boot_isinstance (pa_cons (pv 0) (pa_cons (pe_glob (v := .ref (ga K "BadNumber")) (by rfl) (T.gb (x := "BadNumber") (by decide +kernel)) rfl) pa_nil))) (pa_cons (pe_callB (call_isQ (List.mem_singleton.mpr rfl)) (by rfl) (T.fr "isinstance" (by decide +kernel)) boot_isinstance (pa_cons (pv 0) (pa_cons (pe_glob (v := .ref (ga K "BadCell")) (by rfl) (T.gb (x := "BadCell") (by decide +kernel)) rfl) pa_nil))) (pa_cons (pe_callB (call_isQ (List.mem_singleton.mpr rfl)) (by rfl) (T.fr "isinstance" (by decide +kernel)) boot_isinstance (pa_cons (pv 0) (pa_cons (pe_glob (v := .ref (ga K "BadCube")) (by rfl) (T.gb (x := "BadCube") (by decide +kernel)) rfl) pa_nil))) pa_nil))))))
    (pss_cons (ps_expr (pe_bm PySem.F.plainAttrs_list PySem.F.slot_list_extend PySem.F.type_list_extend mt_extend (pv 1) (pa_cons (pe_lst (pa_cons (pe_callB (call_isQ (List.mem_singleton.mpr rfl)) (by rfl) (T.fr "isinstance" (by decide +kernel)) boot_isinstance (pa_cons (pv 0) (pa_cons (pe_glob (v := .ref (ga K "BadOther")) (by rfl) (T.gb (x := "BadOther") (by decide +kernel)) rfl) pa_nil))) (pa_cons (pe_callB (call_isQ (List.mem_singleton.mpr rfl)) (by rfl) (T.fr "isinstance" (by decide +kernel)) boot_isinstance (pa_cons (pv 0) (pa_cons (pe_glob (v := .ref (ga K "BadCubes")) (by rfl) (T.gb (x := "BadCubes") (by decide +kernel)) rfl) pa_nil))) (pa_cons (pe_callB (call_isQ (List.mem_singleton.mpr rfl)) (by rfl) (T.fr "isinstance" (by decide +kernel)) boot_isinstance (pa_cons (pv 0) (pa_cons (pe_glob (v := .ref (ga K "BadLevers")) (by rfl) (T.gb (x := "BadLevers") (by decide +kernel)) rfl) pa_nil))) (pa_cons (pe_callB (call_isQ (List.mem_singleton.mpr rfl)) (by rfl) (T.fr "isinstance" (by decide +kernel)) boot_isinstance (pa_cons (pv 0) (pa_cons (pe_glob (v := .ref (ga K "BadTable")) (by rfl) (T.gb (x := "BadTable") (by decide +kernel)) rfl) pa_nil))) pa_nil))))) pa_nil)))
    (pss_cons (ps_expr (pe_bm PySem.F.plainAttrs_list PySem.F.slot_list_extend PySem.F.type_list_extend mt_extend (pv 1) (pa_cons (pe_lst (pa_cons (pe_callB (call_isQ (List.mem_singleton.mpr rfl)) (by rfl) (T.fr "isinstance" (by decide +kernel)) boot_isinstance (pa_cons (pv 0) (pa_cons (pe_glob (v := .ref (ga K "BadBursts")) (by rfl) (T.gb (x := "BadBursts") (by decide +kernel)) rfl) pa_nil))) (pa_cons (pe_callB (call_isQ (List.mem_singleton.mpr rfl)) (by rfl) (T.fr "isinstance" (by decide +kernel)) boot_isinstance (pa_cons (pv 0) (pa_cons (pe_glob (v := .ref (ga K "BadPanel")) (by rfl) (T.gb (x := "BadPanel") (by decide +kernel)) rfl) pa_nil))) (pa_cons (pe_callB (call_isQ (List.mem_singleton.mpr rfl)) (by rfl) (T.fr "isinstance" (by decide +kernel)) boot_isinstance (pa_cons (pv 0) (pa_cons (pe_glob (v := .ref (ga K "BadIndex")) (by rfl) (T.gb (x := "BadIndex") (by decide +kernel)) rfl) pa_nil))) (pa_cons (pe_callB (call_isQ (List.mem_singleton.mpr rfl)) (by rfl) (T.fr "isinstance" (by decide +kernel)) boot_isinstance (pa_cons (pv 0) (pa_cons (pe_glob (v := .ref (ga K "BadSign")) (by rfl) (T.gb (x := "BadSign") (by decide +kernel)) rfl) pa_nil))) pa_nil))))) pa_nil)))
    (pss_cons (ps_expr (pe_bm PySem.F.plainAttrs_list PySem.F.slot_list_extend PySem.F.type_list_extend mt_extend (pv 1) (pa_cons (pe_lst (pa_cons (pe_callB (call_isQ (List.mem_singleton.mpr rfl)) (by rfl) (T.fr "isinstance" (by decide +kernel)) boot_isinstance (pa_cons (pv 0) (pa_cons (pe_glob (v := .ref (ga K "BadOn")) (by rfl) (T.gb (x := "BadOn") (by decide +kernel)) rfl) pa_nil))) (pa_cons (pe_callB (call_isQ (List.mem_singleton.mpr rfl)) (by rfl) (T.fr "isinstance" (by decide +kernel)) boot_isinstance (pa_cons (pv 0) (pa_cons (pe_glob (v := .ref (ga K "BadOff")) (by rfl) (T.gb (x := "BadOff") (by decide +kernel)) rfl) pa_nil))) (pa_cons (pe_callB (call_isQ (List.mem_singleton.mpr rfl)) (by rfl) (T.fr "isinstance" (by decide +kernel)) boot_isinstance (pa_cons (pv 0) (pa_cons (pe_glob (v := .ref (ga K "BadClash")) (by rfl) (T.gb (x := "BadClash") (by decide +kernel)) rfl) pa_nil))) (pa_cons (pe_callB (call_isQ (List.mem_singleton.mpr rfl)) (by rfl) (T.fr "isinstance" (by decide +kernel)) boot_isinstance (pa_cons (pv 0) (pa_cons (pe_glob (v := .ref (ga K "BadPanelText")) (by rfl) (T.gb (x := "BadPanelText") (by decide +kernel)) rfl) pa_nil))) pa_nil))))) pa_nil)))
    (pss_cons (ps_expr (pe_bm PySem.F.plainAttrs_list PySem.F.slot_list_extend PySem.F.type_list_extend mt_extend (pv 1) (pa_cons (pe_lst (pa_cons (pe_callB (call_isQ (List.mem_singleton.mpr rfl)) (by rfl) (T.fr "isinstance" (by decide +kernel)) boot_isinstance (pa_cons (pv 0) (pa_cons (pe_glob (v := .ref (ga K "BadPath")) (by rfl) (T.gb (x := "BadPath") (by decide +kernel)) rfl) pa_nil))) (pa_cons (pe_callB (call_isQ (List.mem_singleton.mpr rfl)) (by rfl) (T.fr "isinstance" (by decide +kernel)) boot_isinstance (pa_cons (pv 0) (pa_cons (pe_glob (v := .ref (ga K "BadStep")) (by rfl) (T.gb (x := "BadStep") (by decide +kernel)) rfl) pa_nil))) (pa_cons (pe_callB (call_isQ (List.mem_singleton.mpr rfl)) (by rfl) (T.fr "isinstance" (by decide +kernel)) boot_isinstance (pa_cons (pv 0) (pa_cons (pe_glob (v := .ref (ga K "BadSteps")) (by rfl) (T.gb (x := "BadSteps") (by decide +kernel)) rfl) pa_nil))) pa_nil)))) pa_nil)))
    (pss_one (ps_ret (pe_lcH (own := [("k", 2)]) (g := gName 2) (tt := tB (tOp (rIxL K) (tVar 1) (tVar 2))) hot (List.mem_singleton.mpr rfl) scP.nd (pi_range1H (by rfl) (T.fr "range" (by decide +kernel)) (pa_cons pe_int pa_nil)) (blkOk_by (N := ["e", "told", "k"]) (sc := defScope s_law_panel_kinds) (by decide +kernel))
      (fun _ _ _ _ _ => pg_name (i := 2) scP.nd rfl (Or.inl rfl)) (fun _ _ _ _ _ => pts_one (pt_val (pe_ix (r := rIxL K) ix_list (pv 1) (pv 2) (fun _ _ => rfl)))) (fun _ _ _ _ _ => pe_op op_add pe_int (pv 2)))))))))), ?_⟩
  obtain ⟨x, dd, fs, rfl, hx, ec, ed, hd, k⟩ := h
  subst ec
  subst ed
  refine kx_first (J := knP) (x := x) (tells_q T hx e1 e2 e3 hd) rfl kgP0 (by decide +kernel) (by decide) rfl fun l H0 s0 => ?_
  refine kx_more (J := knP) (x := x) (tells_q T hx e1 e2 e3 hd) rfl rfl s0 kgP1 (by decide +kernel) (by decide) rfl fun H1 s1 => ?_
  refine kx_more (J := knP) (x := x) (tells_q T hx e1 e2 e3 hd) rfl rfl s1 kgP2 (by decide +kernel) (by decide) rfl fun H2 s2 => ?_
  refine kx_more (J := knP) (x := x) (tells_q T hx e1 e2 e3 hd) rfl rfl s2 kgP3 (by decide +kernel) (by decide) rfl fun H3 s3 => ?_
  refine kx_more (J := knP) (x := x) (tells_q T hx e1 e2 e3 hd) rfl rfl s3 kgP4 (by decide +kernel) (by decide) rfl fun H4 s4 => ?_
  exact kx_lastP s4 k fun i H Q q => ⟨_, rfl, _, _, rfl, rfl, by rw [Int.zero_add]; exact q⟩
theorem scM : FnScope ["e", "told", "k"] ["e"] (defScope s_law_machine_kinds) := ⟨rfl, rfl, rfl, by decide +kernel, rfl, by decide +kernel, by decide +kernel⟩
theorem kx_lastM {H H1 : Hp} {x : PySem.Str} {v : V} {l : Addr} {Q : VK} (st : KS knM H x l H1 13) (k : ∀ p H', Same H H' → H p = none → H' p = some (.lst ((kinO knM 19 x).map V.int)) → Q (.ref p) H') {te : TE}
    (ht : ∀ (i : Nat) (H : Hp) (Q : VK), Q (.int (19 + (i : Int))) H → te [some v, some (.ref l), some (.int (0 + (i : Int)))] H Q) :
    tLc (iRng1 (tCons (tC (.int 13)) tNil)) (gName 2) (tB (tOp (rIxL K) (tVar 1) (tVar 2))) te [2] [some v, some (.ref l), none] H1 Q := by
  obtain ⟨s3, l0, tl0⟩ := st
  have tl : H1 l = some (.lst ((bs knM x).map V.bl)) := tl0
  refine ⟨13, rfl, by decide, by decide, fun D hD => ?_⟩
  have hD0 : H D = none := s3.free hD
  have lD : l ≠ D := ne_of_none tl hD
  refine lc_range (lo := 0) (n := 13) (fun i H' => Same H H' ∧ H' l = some (.lst ((bs knM x).map V.bl)) ∧ H' D = some (.lst ((((List.range i).filter fun k => (bs knM x).getD k false).map fun (k : Nat) => 19 + (k : Int)).map V.int)))
    ⟨same_wr s3 hD0, by rw [upd_ne lD]; exact tl, upd_same⟩ ?_ ?_
  · rintro i H' hi ⟨q1, q2, q3⟩
    refine ⟨rfl, _, rfl, _, rfl, _, _, _, _, rfl, rfl, SqL.of q2, (by rw [Int.zero_add]; exact atI_nat (by rw [List.getElem?_map, List.getElem?_eq_getElem (by show i < 13; exact hi)]; rfl)), _, rfl, ?_⟩
    have eg : (bs knM x)[i]'(by show i < 13; exact hi) = (bs knM x).getD i false := by
      rw [List.getD_eq_getElem?_getD, List.getElem?_eq_getElem (by show i < 13; exact hi)]
      rfl
    rw [eg]
    cases c : (bs knM x).getD i false with
    | true =>
      refine iteT (ht i _ _ ⟨_, q3, ?_, same_wr q1 hD0, (by rw [upd_ne lD]; exact q2), ?_⟩)
      · refine Nat.lt_of_le_of_lt ?_ (by decide : 13 < sizeLine)
        rw [List.length_map, List.length_map]
        exact Nat.le_trans (List.length_filter_le _ _) (by rw [List.length_range]; omega)
      · rw [upd_same, filter_snoc, if_pos c, List.map_append, List.map_append]
        rfl
    | false =>
      refine iteF ⟨q1, q2, ?_⟩
      rw [q3, filter_snoc, if_neg (by rw [c]; decide)]
  · rintro H' ⟨q1, q2, q3⟩
    exact k D H' q1 hD0 q3
theorem ok_kindsM (F : FnP K "_law_machine_kinds" s_law_machine_kinds f fd) (T : Tx K mg) : FnOk P w K mg base CX0 1 f fd ["e"] (spKi (kinO knM 19) K) := by
  refine F.ok scM (fun vs H Q E h => by obtain ⟨a, x, rfl, _⟩ := h; rfl) (fun cdv A outer s H vs Q E hr h => ⟨_, PSs.nox
    (pss_cons (ps_set (i := 1) scM.nd rfl (Or.inr rfl) (pe_lst (pa_cons (pe_callB call_isEr (by rfl) (T.fr "isinstance" (by decide +kernel)) boot_isinstance (pa_cons (pv 0) (pa_cons (pe_glob (v := .ref (ga K "BadMachine")) (by rfl) (T.gb (x := "BadMachine") (by decide +kernel)) rfl) pa_nil))) (pa_cons (pe_callB call_isEr (by rfl) (T.fr "isinstance" (by decide +kernel)) boot_isinstance (pa_cons (pv 0) (pa_cons (pe_glob (v := .ref (ga K "BadLamps")) (by rfl) (T.gb (x := "BadLamps") (by decide +kernel)) rfl) pa_nil))) (pa_cons (pe_callB call_isEr (by rfl) (T.fr "isinstance" (by decide +kernel)) boot_isinstance (pa_cons (pv 0) (pa_cons (pe_glob (v := .ref (ga K "BadStates")) (by rfl) (T.gb (x := "BadStates") (by decide +kernel)) rfl) pa_nil))) (pa_cons (pe_callB call_isEr (by rfl) (T.fr "isinstance" (by decide +kernel)) boot_isinstance (pa_cons (pv 0) (pa_cons (pe_glob (v := .ref (ga K "BadMoves")) (by rfl) (T.gb (x := "BadMoves") (by decide +kernel)) rfl) pa_nil))) pa_nil))))))
    (pss_cons (ps_expr (pe_bm PySem.F.plainAttrs_list PySem.F.slot_list_extend PySem.F.type_list_extend mt_extend (pv 1) (pa_cons (pe_lst (pa_cons (pe_callB call_isEr (by rfl) (T.fr "isinstance" (by decide +kernel)) boot_isinstance (pa_cons (pv 0) (pa_cons (pe_glob (v := .ref (ga K "BadName")) (by rfl) (T.gb (x := "BadName") (by decide +kernel)) rfl) pa_nil))) (pa_cons (pe_callB call_isEr (by rfl) (T.fr "isinstance" (by decide +kernel)) boot_isinstance (pa_cons (pv 0) (pa_cons (pe_glob (v := .ref (ga K "BadWalk")) (by rfl) (T.gb (x := "BadWalk") (by decide +kernel)) rfl) pa_nil))) (pa_cons (pe_callB call_isEr (by rfl) (T.fr "isinstance" (by decide +kernel)) boot_isinstance (pa_cons (pv 0) (pa_cons (pe_glob (v := .ref (ga K "BadMachineText")) (by rfl) (T.gb (x := "BadMachineText") (by decide +kernel)) rfl) pa_nil))) (pa_cons (pe_callB call_isEr (by rfl) (T.fr "isinstance" (by decide +kernel)) boot_isinstance (pa_cons (pv 0) (pa_cons (pe_glob (v := .ref (ga K "BadCode")) (by rfl) (T.gb (x := "BadCode") (by decide +kernel)) rfl) pa_nil))) pa_nil))))) pa_nil)))
    (pss_cons (ps_expr (pe_bm PySem.F.plainAttrs_list PySem.F.slot_list_extend PySem.F.type_list_extend mt_extend (pv 1) (pa_cons (pe_lst (pa_cons (pe_callB call_isEr (by rfl) (T.fr "isinstance" (by decide +kernel)) boot_isinstance (pa_cons (pv 0) (pa_cons (pe_glob (v := .ref (ga K "BadMove")) (by rfl) (T.gb (x := "BadMove") (by decide +kernel)) rfl) pa_nil))) (pa_cons (pe_callB call_isEr (by rfl) (T.fr "isinstance" (by decide +kernel)) boot_isinstance (pa_cons (pv 0) (pa_cons (pe_glob (v := .ref (ga K "BadNets")) (by rfl) (T.gb (x := "BadNets") (by decide +kernel)) rfl) pa_nil))) (pa_cons (pe_callB call_isEr (by rfl) (T.fr "isinstance" (by decide +kernel)) boot_isinstance (pa_cons (pv 0) (pa_cons (pe_glob (v := .ref (ga K "BadRuns")) (by rfl) (T.gb (x := "BadRuns") (by decide +kernel)) rfl) pa_nil))) (pa_cons (pe_callB call_isEr (by rfl) (T.fr "isinstance" (by decide +kernel)) boot_isinstance (pa_cons (pv 0) (pa_cons (pe_glob (v := .ref (ga K "BadLog")) (by rfl) (T.gb (x := "BadLog") (by decide +kernel)) rfl) pa_nil))) pa_nil))))) pa_nil)))
    (pss_cons (ps_expr (pe_bm PySem.F.plainAttrs_list PySem.F.slot_list_extend PySem.F.type_list_extend mt_extend (pv 1) (pa_cons (pe_lst (pa_cons (pe_callB call_isEr (by rfl) (T.fr "isinstance" (by decide +kernel)) boot_isinstance (pa_cons (pv 0) (pa_cons (pe_glob (v := .ref (ga K "BadLogText")) (by rfl) (T.gb (x := "BadLogText") (by decide +kernel)) rfl) pa_nil))) pa_nil)) pa_nil)))
    (pss_one (ps_ret (pe_lc (own := [("k", 2)]) (g := gName 2) (tt := tB (tOp (rIxL K) (tVar 1) (tVar 2))) rfl scM.nd (pi_range1 (by rfl) (T.fr "range" (by decide +kernel)) (pa_cons pe_int pa_nil)) (blkOk_by (N := ["e", "told", "k"]) (sc := defScope s_law_machine_kinds) (by decide +kernel))
      (fun _ _ _ _ _ => pg_name (i := 2) scM.nd rfl (Or.inl rfl)) (fun _ _ _ _ _ => pts_one (pt_val (pe_ix (r := rIxL K) ix_list (pv 1) (pv 2) (fun _ _ => rfl)))) (fun _ _ _ _ _ => pe_op op_add pe_int (pv 2))))))))), ?_⟩)
  obtain ⟨a, x, rfl, hx, he, k⟩ := h
  refine kx_first (J := knM) (x := x) (tells_er T hx he) rfl kgM0 (by decide +kernel) (by decide) rfl fun l H0 s0 => ?_
  refine kx_more (J := knM) (x := x) (tells_er T hx he) rfl rfl s0 kgM1 (by decide +kernel) (by decide) rfl fun H1 s1 => ?_
  refine kx_more (J := knM) (x := x) (tells_er T hx he) rfl rfl s1 kgM2 (by decide +kernel) (by decide) rfl fun H2 s2 => ?_
  refine kx_more (J := knM) (x := x) (tells_er T hx he) rfl rfl s2 kgM3 (by decide +kernel) (by decide) rfl fun H3 s3 => ?_
  exact kx_lastM s3 k fun i H Q q => ⟨_, rfl, _, _, rfl, rfl, by rw [Int.zero_add]; exact q⟩
theorem ok_kindsMQ (F : FnP K "_law_machine_kinds" s_law_machine_kinds f fd) (T : Tx K mg) {q : Addr × Obj} {c : Value} {d : Option Addr} (e1 : q.2.cls = c) (e2 : q.2.dict = d) (e3 : ∃ vs, q.2.data = .fields vs) : FnQ P w K mg base 1 q f fd ["e"] (spKiQ (kinO knM 19) K q.1 c d) := by
  obtain ⟨oc, od, dV, kV, doc, pm, an, cdv, ct, osl, rfl, lk, hcd, _, _⟩ := F.ex
  refine fn_ofQ lk hcd scM (fun vs H Q E h => by obtain ⟨x, dd, fs, rfl, _⟩ := h; rfl) fun A outer s H vs Q E hot hr h => ⟨_,
    (pss_cons (ps_set (i := 1) scM.nd rfl (Or.inr rfl) (pe_lst (pa_cons (pe_callB (call_isQ (List.mem_singleton.mpr rfl)) (by rfl) (T.fr "isinstance" (by decide +kernel)) boot_isinstance (pa_cons (pv 0) (pa_cons (pe_glob (v := .ref (ga K "BadMachine")) (by rfl) (T.gb (x := "BadMachine") (by decide +kernel)) rfl) pa_nil))) (pa_cons (pe_callB (call_isQ (List.mem_singleton.mpr rfl)) (by rfl) (T.fr "isinstance" (by decide +kernel)) boot_isinstance (pa_cons (pv 0) (pa_cons (pe_glob (v := .ref (ga K "BadLamps")) (by rfl) (T.gb (x := "BadLamps") (by decide +kernel)) rfl) pa_nil))) (pa_cons (pe_callB (call_isQ (List.mem_singleton.mpr rfl)) (by rfl) (T.fr "isinstance" (by decide +kernel)) boot_isinstance (pa_cons (pv 0) (pa_cons (pe_glob (v := .ref (ga K "BadStates")) (by rfl) (T.gb (x := "BadStates") (by decide +kernel)) rfl) pa_nil))) (pa_cons (pe_callB (call_isQ (List.mem_singleton.mpr rfl)) (by rfl) (T.fr "isinstance" (by decide +kernel)) boot_isinstance (pa_cons (pv 0) (pa_cons (pe_glob (v := .ref (ga K "BadMoves")) (by rfl) (T.gb (x := "BadMoves") (by decide +kernel)) rfl) pa_nil))) pa_nil))))))
    (pss_cons (ps_expr (pe_bm PySem.F.plainAttrs_list PySem.F.slot_list_extend PySem.F.type_list_extend mt_extend (pv 1) (pa_cons (pe_lst (pa_cons (pe_callB (call_isQ (List.mem_singleton.mpr rfl)) (by rfl) (T.fr "isinstance" (by decide +kernel)) boot_isinstance (pa_cons (pv 0) (pa_cons (pe_glob (v := .ref (ga K "BadName")) (by rfl) (T.gb (x := "BadName") (by decide +kernel)) rfl) pa_nil))) (pa_cons (pe_callB (call_isQ (List.mem_singleton.mpr rfl)) (by rfl) (T.fr "isinstance" (by decide +kernel)) boot_isinstance (pa_cons (pv 0) (pa_cons (pe_glob (v := .ref (ga K "BadWalk")) (by rfl) (T.gb (x := "BadWalk") (by decide +kernel)) rfl) pa_nil))) (pa_cons (pe_callB (call_isQ (List.mem_singleton.mpr rfl)) (by rfl) (T.fr "isinstance" (by decide +kernel)) boot_isinstance (pa_cons (pv 0) (pa_cons (pe_glob (v := .ref (ga K "BadMachineText")) (by rfl) (T.gb (x := "BadMachineText") (by decide +kernel)) rfl) pa_nil))) (pa_cons (pe_callB (call_isQ (List.mem_singleton.mpr rfl)) (by rfl) (T.fr "isinstance" (by decide +kernel)) boot_isinstance (pa_cons (pv 0) (pa_cons (pe_glob (v := .ref (ga K "BadCode")) (by rfl) (T.gb (x := "BadCode") (by decide +kernel)) rfl) pa_nil))) pa_nil))))) pa_nil)))
    (pss_cons (ps_expr (pe_bm PySem.F.plainAttrs_list PySem.F.slot_list_extend PySem.F.type_list_extend mt_extend (pv 1) (pa_cons (pe_lst (pa_cons (pe_callB (call_isQ (List.mem_singleton.mpr rfl)) (by rfl) (T.fr "isinstance" (by decide +kernel)) boot_isinstance (pa_cons (pv 0) (pa_cons (pe_glob (v := .ref (ga K "BadMove")) (by rfl) (T.gb (x := "BadMove") (by decide +kernel)) rfl) pa_nil))) (pa_cons (pe_callB (call_isQ (List.mem_singleton.mpr rfl)) (by rfl) (T.fr "isinstance" (by decide +kernel)) boot_isinstance (pa_cons (pv 0) (pa_cons (pe_glob (v := .ref (ga K "BadNets")) (by rfl) (T.gb (x := "BadNets") (by decide +kernel)) rfl) pa_nil))) (pa_cons (pe_callB (call_isQ (List.mem_singleton.mpr rfl)) (by rfl) (T.fr "isinstance" (by decide +kernel)) boot_isinstance (pa_cons (pv 0) (pa_cons (pe_glob (v := .ref (ga K "BadRuns")) (by rfl) (T.gb (x := "BadRuns") (by decide +kernel)) rfl) pa_nil))) (pa_cons (pe_callB (call_isQ (List.mem_singleton.mpr rfl)) (by rfl) (T.fr "isinstance" (by decide +kernel)) boot_isinstance (pa_cons (pv 0) (pa_cons (pe_glob (v := .ref (ga K "BadLog")) (by rfl) (T.gb (x := "BadLog") (by decide +kernel)) rfl) pa_nil))) pa_nil))))) pa_nil)))
    (pss_cons (ps_expr (pe_bm PySem.F.plainAttrs_list PySem.F.slot_list_extend PySem.F.type_list_extend mt_extend (pv 1) (pa_cons (pe_lst (pa_cons (pe_callB (call_isQ (List.mem_singleton.mpr rfl)) (by rfl) (T.fr "isinstance" (by decide +kernel)) boot_isinstance (pa_cons (pv 0) (pa_cons (pe_glob (v := .ref (ga K "BadLogText")) (by rfl) (T.gb (x := "BadLogText") (by decide +kernel)) rfl) pa_nil))) pa_nil)) pa_nil)))
    (pss_one (ps_ret (pe_lcH (own := [("k", 2)]) (g := gName 2) (tt := tB (tOp (rIxL K) (tVar 1) (tVar 2))) hot (List.mem_singleton.mpr rfl) scM.nd (pi_range1H (by rfl) (T.fr "range" (by decide +kernel)) (pa_cons pe_int pa_nil)) (blkOk_by (N := ["e", "told", "k"]) (sc := defScope s_law_machine_kinds) (by decide +kernel))
      (fun _ _ _ _ _ => pg_name (i := 2) scM.nd rfl (Or.inl rfl)) (fun _ _ _ _ _ => pts_one (pt_val (pe_ix (r := rIxL K) ix_list (pv 1) (pv 2) (fun _ _ => rfl)))) (fun _ _ _ _ _ => pe_op op_add pe_int (pv 2))))))))), ?_⟩
  obtain ⟨x, dd, fs, rfl, hx, ec, ed, hd, k⟩ := h
  subst ec
  subst ed
  refine kx_first (J := knM) (x := x) (tells_q T hx e1 e2 e3 hd) rfl kgM0 (by decide +kernel) (by decide) rfl fun l H0 s0 => ?_
  refine kx_more (J := knM) (x := x) (tells_q T hx e1 e2 e3 hd) rfl rfl s0 kgM1 (by decide +kernel) (by decide) rfl fun H1 s1 => ?_
  refine kx_more (J := knM) (x := x) (tells_q T hx e1 e2 e3 hd) rfl rfl s1 kgM2 (by decide +kernel) (by decide) rfl fun H2 s2 => ?_
  refine kx_more (J := knM) (x := x) (tells_q T hx e1 e2 e3 hd) rfl rfl s2 kgM3 (by decide +kernel) (by decide) rfl fun H3 s3 => ?_
  exact kx_lastM s3 k fun i H Q q => ⟨_, rfl, _, _, rfl, rfl, by rw [Int.zero_add]; exact q⟩
theorem sc_kinds : FnScope ["e"] ["e"] (defScope s_law_kinds) := ⟨rfl, rfl, rfl, by decide +kernel, rfl, by decide +kernel, by decide +kernel⟩
theorem kin_len (L : List PySem.Str) (z : Int) (x : PySem.Str) : (kinO L z x).length ≤ L.length := by
  unfold kinO
  rw [List.length_map]
  exact Nat.le_trans (List.length_filter_le _ _) (by rw [List.length_range] <;> omega)
theorem kin_size (x : PySem.Str) : ((kinO knP 0 x).map V.int).length + ((kinO knM 19 x).map V.int).length ≤ sizeLine := by
  have h1 := kin_len knP 0 x
  have h2 := kin_len knM 19 x
  rw [List.length_map, List.length_map]
  exact Nat.le_trans (Nat.add_le_add h1 h2) (by decide)
theorem ok_kinds (F : FnP K "_law_kinds" s_law_kinds f fd) (T : Tx K mg) (F1 : FnP K "_law_panel_kinds" s_law_panel_kinds f1 d1) (g1 : mg "_law_panel_kinds" = some (.ref f1)) (F2 : FnP K "_law_machine_kinds" s_law_machine_kinds f2 d2) (g2 : mg "_law_machine_kinds" = some (.ref f2)) :
    FnOk P w K mg base CX0 2 f fd ["e"] (spKi kin K) := by
  have b1 : Binds K d1 ["e"] [] := F1.bindsN fun _ _ _ _ _ _ us hl => match us, hl with | [_], _ => rfl
  have b2 : Binds K d2 ["e"] [] := F2.bindsN fun _ _ _ _ _ _ us hl => match us, hl with | [_], _ => rfl
  have G1 := ok_kindsP (P := P) (w := w) (base := base) F1 T
  have G2 := ok_kindsM (P := P) (w := w) (base := base) F2 T
  refine F.ok sc_kinds (fun vs H Q E h => by obtain ⟨a, x, rfl, _⟩ := h; rfl) (fun cdv A outer s H vs Q E hr h => ⟨_, PSs.nox
    (pss_one (ps_ret (pe_op op_cat (pe_call G1 hr (by rfl) g1 F1.kp b1 .nil pass0 (pa_cons (pv 0) pa_nil)) (pe_call G2 hr (by rfl) g2 F2.kp b2 .nil pass0 (pa_cons (pv 0) pa_nil))))), ?_⟩)
  obtain ⟨a, x, rfl, hx, he, k⟩ := h
  refine ⟨_, rfl, a, x, rfl, hx, he, fun p1 H1 s1 n1 t1 => ?_⟩
  refine ⟨_, rfl, a, x, rfl, hx, isEr_same he s1, fun p2 H2 s2 n2 t2 => ?_⟩
  refine ⟨p1, p2, _, _, rfl, rfl, s2 _ _ t1, t2, kin_size x, fun p np => ?_⟩
  exact k p _ ((s1.trans s2).trans (same_new np)) ((s1.trans s2).free np) (by rw [upd_same, ← List.map_append]; rfl)
theorem ok_kindsQ (F : FnP K "_law_kinds" s_law_kinds f fd) (T : Tx K mg) (F1 : FnP K "_law_panel_kinds" s_law_panel_kinds f1 d1) (g1 : mg "_law_panel_kinds" = some (.ref f1)) (F2 : FnP K "_law_machine_kinds" s_law_machine_kinds f2 d2) (g2 : mg "_law_machine_kinds" = some (.ref f2))
    {q : Addr × Obj} {c : Value} {d : Option Addr} (e1 : q.2.cls = c) (e2 : q.2.dict = d) (e3 : ∃ vs, q.2.data = .fields vs) : FnQ P w K mg base 2 q f fd ["e"] (spKiQ kin K q.1 c d) := by
  have b1 : Binds K d1 ["e"] [] := F1.bindsN fun _ _ _ _ _ _ us hl => match us, hl with | [_], _ => rfl
  have b2 : Binds K d2 ["e"] [] := F2.bindsN fun _ _ _ _ _ _ us hl => match us, hl with | [_], _ => rfl
  have G1 := ok_kindsPQ (P := P) (w := w) (base := base) F1 T (q := q) e1 e2 e3
  have G2 := ok_kindsMQ (P := P) (w := w) (base := base) F2 T (q := q) e1 e2 e3
  obtain ⟨oc, od, dV, kV, doc, pm, an, cdv, ct, osl, rfl, lk, hcd, _, _⟩ := F.ex
  refine fn_ofQ lk hcd sc_kinds (fun vs H Q E h => by obtain ⟨x, dd, fs, rfl, _⟩ := h; rfl) fun A outer s H vs Q E hot hr h => ⟨_,
    (pss_one (ps_ret (pe_op op_cat (pe_callQ G1 hr hot (List.mem_singleton.mpr rfl) (by rfl) g1 F1.kp b1 (pa_cons (pv 0) pa_nil)) (pe_callQ G2 hr hot (List.mem_singleton.mpr rfl) (by rfl) g2 F2.kp b2 (pa_cons (pv 0) pa_nil))))), ?_⟩
  obtain ⟨x, dd, fs, rfl, hx, ec, ed, hd, k⟩ := h
  refine ⟨_, rfl, x, dd, fs, rfl, hx, ec, ed, hd, fun p1 H1 s1 n1 t1 => ?_⟩
  refine ⟨_, rfl, x, dd, fs, rfl, hx, ec, ed, s1 _ _ hd, fun p2 H2 s2 n2 t2 => ?_⟩
  refine ⟨p1, p2, _, _, rfl, rfl, s2 _ _ t1, t2, kin_size x, fun p np => ?_⟩
  exact k p _ ((s1.trans s2).trans (same_new np)) ((s1.trans s2).free np) (by rw [upd_same, ← List.map_append]; rfl)
end
end K0

set_option Elab.async false
set_option linter.all false
set_option maxRecDepth 100000
set_option maxHeartbeats 4000000
namespace K0
open PySem PySem.Spec PyProof.Rows L2 EV He
theorem boot_list : bootBuiltins "list" = some (.type "list") := by decide +kernel
theorem boot_tuple : bootBuiltins "tuple" = some (.type "tuple") := by decide +kernel
theorem boot_dict : bootBuiltins "dict" = some (.type "dict") := by decide +kernel
theorem boot_bool : bootBuiltins "bool" = some (.type "bool") := by decide +kernel
theorem boot_int : bootBuiltins "int" = some (.type "int") := by decide +kernel
theorem boot_str : bootBuiltins "str" = some (.type "str") := by decide +kernel
theorem boot_len : bootBuiltins "len" = some (.builtin "len") := by decide +kernel
theorem boot_all : bootBuiltins "all" = some (.builtin "all") := by decide +kernel
def Fl : V → Prop
  | .non => True
  | .bl _ => True
  | .int _ => True
  | .str _ => True
  | _ => False
/-- the type's name -/
def tyN (H : Hp) (v : V) (t : String) : Prop := match v with
  | .non => t = "NoneType"
  | .bl _ => t = "bool"
  | .int _ => t = "int"
  | .str _ => t = "str"
  | .ref a => (t = "list" ∧ ∃ xs, H a = some (.lst xs)) ∨ (t = "tuple" ∧ ∃ xs, H a = some (.tup xs)) ∨ (t = "dict" ∧ ∃ kvs, H a = some (.dK kvs))
  | _ => False
theorem tyX_of {K : PySem.W.Frag} {H : Hp} {v : V} {t : String} (h : tyN H v t) : TyX K H v (.type t) := by
  cases v with
  | non => cases (show t = _ from h); exact .base .non
  | bl b => cases (show t = _ from h); exact .base (.bl b)
  | int i => cases (show t = _ from h); exact .base (.int i)
  | str x => cases (show t = _ from h); exact .base (.str x)
  | ref a =>
    rcases (show (t = "list" ∧ ∃ xs, H a = some (.lst xs)) ∨ (t = "tuple" ∧ ∃ xs, H a = some (.tup xs)) ∨ (t = "dict" ∧ ∃ kvs, H a = some (.dK kvs)) from h) with ⟨rfl, xs, e⟩ | ⟨rfl, xs, e⟩ | ⟨rfl, kvs, e⟩
    · exact .base (.lst e)
    · exact .base (.tup e)
    · exact .base (.dK e)
  | _ => exact h.elim
end K0

set_option Elab.async false
set_option linter.all false
set_option maxRecDepth 100000
set_option maxHeartbeats 4000000
namespace K0
open PySem PySem.Spec PyProof.Rows L2 EV He
def spBetween : Sp := fun vs H Q _ => ∃ (p q : Addr) (n lo hi : Int), vs = [.ref p, .int lo, .int hi] ∧ Dw H p q n ∧ n < 1000000000 ∧ hi - lo < 1000000 ∧ ∀ r H', Kp p q H H' → Dw H' p q (n + 1) → Q (.int r) H'
/-- a drawn thing -/
def Th (H H' : Hp) (v : V) : Prop := Fl v ∨ (∃ (t : Addr) (i : Int), v = .ref t ∧ H' t = some (.tup [.int 1, .int i]) ∧ H t = none) ∨
  (∃ (l b : Addr) (i : Int), v = .ref l ∧ H' l = some (.lst [.int i, .ref b]) ∧ H' b = some (.lst [.int 1]) ∧ H l = none ∧ H b = none ∧ l ≠ b) ∨
  ∃ (d : Addr) (i : Int), v = .ref d ∧ H' d = some (.dK [(Sum.inr ("a" : PySem.Str), .int i)]) ∧ H d = none
def spObject : Sp := fun vs H Q _ => ∃ (p q : Addr) (n : Int), vs = [.ref p] ∧ Dw H p q n ∧ n < 999999900 ∧ ∀ v H' m, Kp p q H H' → Dw H' p q m → m ≤ n + 10 → Th H H' v → Q v H'
theorem Dw.p {H : Hp} {p q : Addr} {n : Int} (h : Dw H p q n) : H p ≠ none := by
  obtain ⟨_, _, _, e, _⟩ := h.ex
  rw [e]
  exact fun z => nomatch z
theorem Dw.q {H : Hp} {p q : Addr} {n : Int} (h : Dw H p q n) : H q ≠ none := by
  obtain ⟨_, _, _, _, e, _⟩ := h.ex
  rw [e]
  exact fun z => nomatch z
/-- a new object: the draws' state stands -/
theorem Dw.new {H : Hp} {p q a : Addr} {o : HO} {n : Int} (h : Dw H p q n) (ha : H a = none) : Dw (upd H a o) p q n := by
  obtain ⟨⟨cells, cur, mix, e1, e2, r⟩, n0⟩ := h
  exact ⟨⟨cells, cur, mix, by rw [upd_ne (ne_of_none e1 ha)]; exact e1, by rw [upd_ne (ne_of_none e2 ha)]; exact e2, r⟩, n0⟩
theorem Dw.wr {H : Hp} {p q a : Addr} {o : HO} {n : Int} (h : Dw H p q n) (h1 : a ≠ p) (h2 : a ≠ q) : Dw (upd H a o) p q n := by
  obtain ⟨⟨cells, cur, mix, e1, e2, r⟩, n0⟩ := h
  exact ⟨⟨cells, cur, mix, by rw [upd_ne h1.symm]; exact e1, by rw [upd_ne h2.symm]; exact e2, r⟩, n0⟩
theorem Kp.free {p q a : Addr} {H H' : Hp} {n : Int} (k : Kp p q H H') (d : Dw H p q n) (h : H' a = none) (d' : Dw H' p q n ∨ a ≠ p ∧ a ≠ q) : H a = none := by
  cases e : H a with
  | none => rfl
  | some o =>
    by_cases z1 : a = p
    · rcases d' with d' | d'
      · rw [z1] at h
        exact absurd h d'.p
      · exact absurd z1 d'.1
    · by_cases z2 : a = q
      · rcases d' with d' | d'
        · rw [z2] at h
          exact absurd h d'.q
        · exact absurd z2 d'.2
      · rw [k a o e z1 z2] at h
        cases h
theorem dw_ne {H : Hp} {p q a : Addr} {n : Int} (d : Dw H p q n) (h : H a = none) : a ≠ p ∧ a ≠ q := ⟨fun z => d.p (by rw [← z]; exact h), fun z => d.q (by rw [← z]; exact h)⟩
theorem kp_free {p q a : Addr} {H H' : Hp} {m : Int} (k : Kp p q H H') (d : Dw H' p q m) (h : H' a = none) : H a = none := by
  cases e : H a with
  | none => rfl
  | some o =>
    have z := dw_ne d h
    rw [k a o e z.1 z.2] at h
    cases h
section
variable {P : Program} {w : World} {K : PySem.W.Frag} {mg : PySem.Str → Option Value} {base : Heap} {f fP fB : Addr} {fd dP dB : FuncData}
theorem boot_max : bootBuiltins "max" = some (.builtin "max") := by decide +kernel
theorem sc_between : FnScope ["state", "low", "high"] ["state", "low", "high"] (defScope s_law_between) := ⟨rfl, rfl, rfl, by decide +kernel, rfl, by decide +kernel, by decide +kernel⟩
theorem ok_between (F : FnP K "_law_between" s_law_between f fd) (T : Tx K mg) (FP : FnP K "_law_pick" s_law_pick fP dP) (gP : mg "_law_pick" = some (.ref fP)) (G : FnOk P w K mg base CX0 1 fP dP ["state", "many"] spPick) :
    FnOk P w K mg base CX0 2 f fd ["state", "low", "high"] spBetween := by
  have bP : Binds K dP ["state", "many"] [] := FP.bindsN fun _ _ _ _ _ _ us hl => match us, hl with | [_, _], _ => rfl
  refine F.ok sc_between (fun vs H Q E h => by obtain ⟨p, q, n, lo, hi, rfl, _⟩ := h; rfl) (fun cdv A outer s H vs Q E hrP h => ⟨_, PSs.nox
    (pss_one (ps_ret (pe_op op_add (pv 1) (pe_call G (hrP) (by rfl) gP FP.kp bP .nil pass0 (pa_cons (pv 0) (pa_cons (pe_op op_add (pe_callB (call_max2 rfl) (by rfl) (T.fr "max" (by decide +kernel)) boot_max (pa_cons (pe_op op_sub (pv 2) (pv 1)) (pa_cons pe_int pa_nil))) pe_int) pa_nil)))))), ?_⟩)
  obtain ⟨p, q, n, lo, hi, rfl, d, n1, hl, k⟩ := h
  refine ⟨_, rfl, _, rfl, _, rfl, _, rfl, _, _, rfl, rfl, _, _, rfl, _, _, rfl, rfl, p, q, n, _, rfl, d, n1, ?_, ?_, fun r H' r0 r1 kp d' => ⟨_, _, rfl, rfl, k _ _ kp d'⟩⟩
  · show (1 : Int) ≤ (if (0 : Int) > hi - lo then 0 else hi - lo) + 1
    split <;> omega
  · show (if (0 : Int) > hi - lo then 0 else hi - lo) + 1 < 1073741824
    split <;> omega
theorem str_short : ∀ k : _root_.Fin 99, (PySem.Str.ofString (toString ((k.val : Nat) : Int))).length ≤ 3 := by decide +kernel
theorem sc_object : FnScope ["state", "way"] ["state"] (defScope s_law_object) := ⟨rfl, rfl, rfl, by decide +kernel, rfl, by decide +kernel, by decide +kernel⟩
theorem ok_object (F : FnP K "_law_object" s_law_object f fd) (T : Tx K mg) (FP : FnP K "_law_pick" s_law_pick fP dP) (gP : mg "_law_pick" = some (.ref fP)) (G : FnOk P w K mg base CX0 1 fP dP ["state", "many"] spPick)
    (FB : FnP K "_law_between" s_law_between fB dB) (gB : mg "_law_between" = some (.ref fB)) : FnOk P w K mg base CX0 3 f fd ["state"] spObject := by
  have bP : Binds K dP ["state", "many"] [] := FP.bindsN fun _ _ _ _ _ _ us hl => match us, hl with | [_, _], _ => rfl
  have bB : Binds K dB ["state", "low", "high"] [] := FB.bindsN fun _ _ _ _ _ _ us hl => match us, hl with | [_, _, _], _ => rfl
  have GB := ok_between FB T FP gP G
  refine F.ok sc_object (fun vs H Q E h => by obtain ⟨p, q, n, rfl, _⟩ := h; rfl) (fun cdv A outer s H vs Q E hrB h => ⟨_, PSs.nox
    (pss_cons (ps_set (i := 1) sc_object.nd rfl (Or.inl rfl) (pe_call G (hrB.mono (by decide)) (by rfl) gP FP.kp bP .nil pass0 (pa_cons (pv 0) (pa_cons pe_int pa_nil))))
    (pss_cons (ps_if (pt_cmpR op_lt (pv 1) pe_int (nomark _)) (pss_one (ps_ret (pe_ix ix_list (pe_lst (pa_cons (pe_call GB hrB (by rfl) gB FB.kp bB .nil pass0 (pa_cons (pv 0) (pa_cons (pe_un un_neg pe_int) (pa_cons pe_int pa_nil)))) (pa_cons (pe_op op_add_str pe_str (pe_callTy call_str_int (by rfl) (T.fr "str" (by decide +kernel)) boot_str (pa_cons (pe_call G (hrB.mono (by decide)) (by rfl) gP FP.kp bP .nil pass0 (pa_cons (pv 0) (pa_cons pe_int pa_nil))) pa_nil))) pa_nil))) (pv 1) (fun _ _ => rfl)))) pss_nil)
    (pss_cons (ps_if (pt_cmpR op_lt (pv 1) pe_int (nomark _)) (pss_one (ps_ret (pe_ix ix_list (pe_lst (pa_cons pe_non (pa_cons (pe_cmpR op_eq (pe_call G (hrB.mono (by decide)) (by rfl) gP FP.kp bP .nil pass0 (pa_cons (pv 0) (pa_cons pe_int pa_nil))) pe_int (nomark _)) (pa_cons (pe_tup (pa_cons pe_int (pa_cons (pe_call G (hrB.mono (by decide)) (by rfl) gP FP.kp bP .nil pass0 (pa_cons (pv 0) (pa_cons pe_int pa_nil))) pa_nil))) pa_nil)))) (pe_op op_sub (pv 1) pe_int) (fun _ _ => rfl)))) pss_nil)
    (pss_one (ps_ret (pe_ifExp (pt_cmpR op_eq (pv 1) pe_int (nomark _)) (pe_lst (pa_cons (pe_call G (hrB.mono (by decide)) (by rfl) gP FP.kp bP .nil pass0 (pa_cons (pv 0) (pa_cons pe_int pa_nil))) (pa_cons (pe_lst (pa_cons pe_int pa_nil)) pa_nil))) (pe_disp (pps_cons pe_str (pe_call G (hrB.mono (by decide)) (by rfl) gP FP.kp bP .nil pass0 (pa_cons (pv 0) (pa_cons pe_int pa_nil))) pps_nil) (by rfl) (by rfl) (fun z => by cases z) (by decide)))))))), ?_⟩)
  obtain ⟨p, q, n, rfl, d, n1, k⟩ := h
  refine ⟨_, rfl, p, q, n, _, rfl, d, by omega, by decide, by decide, fun way H1 a1 b1 k1 d1 => ?_⟩
  refine ⟨_, rfl, _, _, rfl, rfl, _, rfl, ite2 (fun c => ?_) (fun c => ?_)⟩
  · have c1 : way < 2 := of_decide_eq_true c
    refine ⟨_, rfl, _, rfl, p, q, n + 1, _, _, rfl, d1, by omega, by decide, fun r1 H2 k2 d2 => ?_⟩
    refine ⟨_, rfl, p, q, n + 1 + 1, _, rfl, d2, by omega, by decide, by decide, fun r2 H3 a2 b2 k3 d3 => ?_⟩
    obtain ⟨m2, rfl⟩ : ∃ m : Nat, r2 = (m : Int) := ⟨r2.toNat, by omega⟩
    have hm2 : m2 < 99 := by omega
    refine ⟨_, rfl, ?_, _, _, rfl, rfl, ?_, ?_⟩
    · rw [Int.natAbs_natCast]
      exact Nat.lt_of_le_of_lt (Nat.log2_le_self m2) (by omega)
    · have z : (PySem.Str.ofString (toString (m2 : Int))).length ≤ 3 := str_short ⟨m2, hm2⟩
      refine Nat.le_trans (Nat.add_le_add_left z _) ?_
      decide
    refine ⟨(by show 2 ≤ sizeLine; decide), fun l nl => ?_⟩
    have kA := (k1.trans k2).trans k3
    have hr : way = 0 ∨ way = 1 := by omega
    rcases hr with rfl | rfl
    · exact ⟨_, rfl, l, _, _, _, rfl, rfl, SqL.of upd_same, rfl, k _ _ _ (kA.trans (Kp.new nl)) (d3.new nl) (by omega) (.inl True.intro)⟩
    · exact ⟨_, rfl, l, _, _, _, rfl, rfl, SqL.of upd_same, rfl, k _ _ _ (kA.trans (Kp.new nl)) (d3.new nl) (by omega) (.inl True.intro)⟩
  · have c1 : ¬ (way < 2) := fun z => c (decide_eq_true z)
    refine ⟨_, rfl, _, _, rfl, rfl, _, rfl, ite2 (fun c => ?_) (fun c => ?_)⟩
    · have c2 : way < 5 := of_decide_eq_true c
      refine ⟨_, rfl, p, q, n + 1, _, rfl, d1, by omega, by decide, by decide, fun r3 H3 a3 b3 k3 d3 => ⟨rfl, ?_⟩⟩
      refine ⟨_, rfl, p, q, n + 1 + 1, _, rfl, d3, by omega, by decide, by decide, fun r4 H4 a4 b4 k4 d4 => ⟨(by show 2 ≤ sizeLine; decide), fun t nt => ⟨(by show 3 ≤ sizeLine; decide), fun l nl => ?_⟩⟩⟩
      have kA := (k1.trans k3).trans k4
      have t0 : H t = none := kp_free kA d4 nt
      have tt : upd H4 t (.tup [.int 1, .int r4]) t = some (.tup [.int 1, .int r4]) := upd_same
      have kB := kA.trans (Kp.new (p := p) (q := q) (o := .tup [.int 1, .int r4]) nt)
      have d5 := d4.new (o := .tup [.int 1, .int r4]) nt
      have ta := ne_of_none tt nl
      have hr : way = 2 ∨ way = 3 ∨ way = 4 := by omega
      rcases hr with rfl | rfl | rfl
      · exact ⟨_, rfl, _, _, rfl, rfl, l, _, _, _, rfl, rfl, SqL.of upd_same, rfl, k _ _ _ (kB.trans (Kp.new nl)) (d5.new nl) (by omega) (.inl True.intro)⟩
      · exact ⟨_, rfl, _, _, rfl, rfl, l, _, _, _, rfl, rfl, SqL.of upd_same, rfl, k _ _ _ (kB.trans (Kp.new nl)) (d5.new nl) (by omega) (.inl True.intro)⟩
      · exact ⟨_, rfl, _, _, rfl, rfl, l, _, _, _, rfl, rfl, SqL.of upd_same, rfl, k _ _ _ (kB.trans (Kp.new nl)) (d5.new nl) (by omega) (.inr (.inl ⟨t, r4, rfl, by rw [upd_ne ta]; exact tt, t0⟩))⟩
    · refine ⟨_, rfl, rfl, _, rfl, ite2 (fun c2 => ?_) (fun c2 => ?_)⟩
      · refine ⟨_, rfl, p, q, n + 1, _, rfl, d1, by omega, by decide, by decide, fun r6 H8 a6 b6 k6 d8 => ⟨(by show 1 ≤ sizeLine; decide), fun b nb => ⟨(by show 2 ≤ sizeLine; decide), fun l2 nl2 => ?_⟩⟩⟩
        have kE := k1.trans k6
        have b0 := kp_free kE d8 nb
        have bb : upd H8 b (.lst [.int 1]) b = some (.lst [.int 1]) := upd_same
        have kF := kE.trans (Kp.new (p := p) (q := q) (o := .lst [.int 1]) nb)
        have d9 := d8.new (o := .lst [.int 1]) nb
        have l0 := kp_free kF d9 nl2
        have lb : b ≠ l2 := ne_of_none bb nl2
        exact k _ _ _ (kF.trans (Kp.new nl2)) (d9.new nl2) (by omega) (.inr (.inr (.inl ⟨l2, b, r6, rfl, upd_same, by rw [upd_ne lb]; exact bb, l0, b0, lb.symm⟩)))
      · intro dd nd
        have e0 := kp_free k1 d1 nd
        have dne := dw_ne d1 nd
        refine ⟨_, rfl, p, q, n + 1, _, rfl, d1.new nd, by omega, by decide, by decide, fun r6 H8 a6 b6 k6 d8 => ?_⟩
        refine ⟨k6 _ _ upd_same dne.1 dne.2, [(Sum.inr ("a" : PySem.Str), .int r6)], rfl, (by show 1 ≤ 15; decide), ?_⟩
        have kG : Kp p q H H8 := (k1.trans (Kp.new (p := p) (q := q) (o := .dK []) nd)).trans k6
        exact k _ _ _ (fun c o h1 h2 h3 => by rw [upd_ne (ne_of_none h1 e0)]; exact kG c o h1 h2 h3) (d8.wr dne.1 dne.2) (by omega) (.inr (.inr (.inr ⟨dd, r6, rfl, upd_same, e0⟩)))
end
end K0

set_option Elab.async false
set_option linter.all false
set_option maxRecDepth 100000
set_option maxHeartbeats 4000000
namespace K0
open PySem PySem.Spec PyProof.Rows L2 EV He
theorem rd_one {K : PySem.W.Frag} {mg : PySem.Str → Option Value} (T : Tx K mg) {x f : PySem.Str} (hx : (x, f) ∈ cls) {D : Ends} {u : Value} {v i : V} {m : Option V} {H : Hp} (k : ∀ t a H', Same H H' → H' t = some (.tup [.ref a, v]) → IsEr H' a (ga K x) → D.rt (.ref t) H') :
    tSeq (tAsg (tNew (ga K x) f (tVar 1)) (gName 2)) (tRet (tTup (tCons (tVar 2) (tCons (tErF K f (tVar 2)) tNil)))) D [some i, some v, m] H := by
  have o := T.one hx
  have R := err_of o.1 o.2
  refine ⟨v, rfl, fun a d na nd da => ?_⟩
  have s1 : Same H (upd (upd H d (exd d [(f, v)])) a (exo a (ga K x) (some d))) := same_wr (same_new nd) na
  have e2 : upd (upd H d (exd d [(f, v)])) a (exo a (ga K x) (some d)) d = some (exd d [(f, v)]) := by
    rw [upd_ne da]
    exact upd_same
  refine ⟨_, rfl, _, rfl, a, _, d, _, v, rfl, R.xf, R.no, upd_same, e2, (by simp), (by show 2 ≤ sizeLine; decide), fun t nt => ?_⟩
  exact k t a _ (s1.trans (same_new nt)) upd_same (.inr ⟨d, _, same_new nt _ _ upd_same, same_new nt _ _ e2⟩)
def spMade (K : PySem.W.Frag) (lo hi : Nat) : Sp := fun vs H Q _ => ∃ (i : Nat) (v : V) (x : PySem.Str), vs = [.int i, v] ∧ lo ≤ i ∧ i < hi ∧ kn[i]? = some x ∧ ∀ t a H', Same H H' → H' t = some (.tup [.ref a, v]) → IsEr H' a (ga K x) → Q (.ref t) H'
section
variable {P : Program} {w : World} {K : PySem.W.Frag} {mg : PySem.Str → Option Value} {base : Heap} {f f1 f2 f3 f4 : Addr} {fd d1 d2 d3 d4 : FuncData}
theorem sc_cube_made : FnScope ["at", "x", "made"] ["at", "x"] (defScope s_law_cube_made) := ⟨rfl, rfl, rfl, by decide +kernel, rfl, by decide +kernel, by decide +kernel⟩
theorem ok_cube_made (F : FnP K "_law_cube_made" s_law_cube_made f fd) (T : Tx K mg) (hI : ∀ p ∈ cls, IniOk P w K mg base p) : FnOk P w K mg base CX0 3 f fd ["at", "x"] (spMade K 0 10) := by
  refine F.ok sc_cube_made (fun vs H Q E h => by obtain ⟨i, v, x, rfl, _⟩ := h; rfl) (fun cdv A outer s H vs Q E hr h => ⟨_, PSs.nox
    (pss_cons (ps_if (pt_cmpR op_eq (pv 0) pe_int (nomark _)) (pss_cons (ps_set (i := 2) sc_cube_made.nd rfl (Or.inl rfl) (pe_C T hI (x := "BadMany") (f := "many") (by decide +kernel) hr (by rfl) (pv 1)))
      (pss_one (ps_ret (pe_tup (pa_cons (pv 2) (pa_cons (pe_erF (pv 2)) pa_nil)))))) pss_nil)
    (pss_cons (ps_if (pt_cmpR op_eq (pv 0) pe_int (nomark _)) (pss_cons (ps_set (i := 2) sc_cube_made.nd rfl (Or.inl rfl) (pe_CK T hI (x := "BadNumber") (f := "number") (by decide +kernel) hr (by rfl) (pv 1)))
      (pss_one (ps_ret (pe_tup (pa_cons (pv 2) (pa_cons (pe_erF (pv 2)) pa_nil)))))) pss_nil)
    (pss_cons (ps_if (pt_cmpR op_eq (pv 0) pe_int (nomark _)) (pss_cons (ps_set (i := 2) sc_cube_made.nd rfl (Or.inl rfl) (pe_C T hI (x := "BadCell") (f := "cell") (by decide +kernel) hr (by rfl) (pv 1)))
      (pss_one (ps_ret (pe_tup (pa_cons (pv 2) (pa_cons (pe_erF (pv 2)) pa_nil)))))) pss_nil)
    (pss_cons (ps_if (pt_cmpR op_eq (pv 0) pe_int (nomark _)) (pss_cons (ps_set (i := 2) sc_cube_made.nd rfl (Or.inl rfl) (pe_C T hI (x := "BadCube") (f := "cube") (by decide +kernel) hr (by rfl) (pv 1)))
      (pss_one (ps_ret (pe_tup (pa_cons (pv 2) (pa_cons (pe_erF (pv 2)) pa_nil)))))) pss_nil)
    (pss_cons (ps_if (pt_cmpR op_eq (pv 0) pe_int (nomark _)) (pss_cons (ps_set (i := 2) sc_cube_made.nd rfl (Or.inl rfl) (pe_CK T hI (x := "BadOther") (f := "other") (by decide +kernel) hr (by rfl) (pv 1)))
      (pss_one (ps_ret (pe_tup (pa_cons (pv 2) (pa_cons (pe_erF (pv 2)) pa_nil)))))) pss_nil)
    (pss_cons (ps_if (pt_cmpR op_eq (pv 0) pe_int (nomark _)) (pss_cons (ps_set (i := 2) sc_cube_made.nd rfl (Or.inl rfl) (pe_C T hI (x := "BadCubes") (f := "index") (by decide +kernel) hr (by rfl) (pv 1)))
      (pss_one (ps_ret (pe_tup (pa_cons (pv 2) (pa_cons (pe_erF (pv 2)) pa_nil)))))) pss_nil)
    (pss_cons (ps_if (pt_cmpR op_eq (pv 0) pe_int (nomark _)) (pss_cons (ps_set (i := 2) sc_cube_made.nd rfl (Or.inl rfl) (pe_C T hI (x := "BadLevers") (f := "index") (by decide +kernel) hr (by rfl) (pv 1)))
      (pss_one (ps_ret (pe_tup (pa_cons (pv 2) (pa_cons (pe_erF (pv 2)) pa_nil)))))) pss_nil)
    (pss_cons (ps_if (pt_cmpR op_eq (pv 0) pe_int (nomark _)) (pss_cons (ps_set (i := 2) sc_cube_made.nd rfl (Or.inl rfl) (pe_CK T hI (x := "BadTable") (f := "index") (by decide +kernel) hr (by rfl) (pv 1)))
      (pss_one (ps_ret (pe_tup (pa_cons (pv 2) (pa_cons (pe_erF (pv 2)) pa_nil)))))) pss_nil)
    (pss_cons (ps_if (pt_cmpR op_eq (pv 0) pe_int (nomark _)) (pss_cons (ps_set (i := 2) sc_cube_made.nd rfl (Or.inl rfl) (pe_C T hI (x := "BadBursts") (f := "index") (by decide +kernel) hr (by rfl) (pv 1)))
      (pss_one (ps_ret (pe_tup (pa_cons (pv 2) (pa_cons (pe_erF (pv 2)) pa_nil)))))) pss_nil)
    (pss_cons (ps_set (i := 2) sc_cube_made.nd rfl (Or.inl rfl) (pe_C T hI (x := "BadPanel") (f := "panel") (by decide +kernel) hr (by rfl) (pv 1)))
      (pss_one (ps_ret (pe_tup (pa_cons (pv 2) (pa_cons (pe_erF (pv 2)) pa_nil))))))))))))))), ?_⟩)
  obtain ⟨i, v, x, rfl, h1, h2, hk, k⟩ := h
  have hi : i = 0 ∨ i = 1 ∨ i = 2 ∨ i = 3 ∨ i = 4 ∨ i = 5 ∨ i = 6 ∨ i = 7 ∨ i = 8 ∨ i = 9 := by omega
  rcases hi with rfl | rfl | rfl | rfl | rfl | rfl | rfl | rfl | rfl | rfl
  · cases hk
    refine ⟨_, rfl, rfl, _, rfl, iteT ?_⟩
    exact rd_one T (x := "BadMany") (f := "many") (u := .none) (by decide +kernel) k
  · cases hk
    refine ⟨_, rfl, rfl, _, rfl, iteF ?_⟩
    refine ⟨_, rfl, rfl, _, rfl, iteT ?_⟩
    exact rd_one T (x := "BadNumber") (f := "number") (u := .none) (by decide +kernel) k
  · cases hk
    refine ⟨_, rfl, rfl, _, rfl, iteF ?_⟩
    refine ⟨_, rfl, rfl, _, rfl, iteF ?_⟩
    refine ⟨_, rfl, rfl, _, rfl, iteT ?_⟩
    exact rd_one T (x := "BadCell") (f := "cell") (u := .none) (by decide +kernel) k
  · cases hk
    refine ⟨_, rfl, rfl, _, rfl, iteF ?_⟩
    refine ⟨_, rfl, rfl, _, rfl, iteF ?_⟩
    refine ⟨_, rfl, rfl, _, rfl, iteF ?_⟩
    refine ⟨_, rfl, rfl, _, rfl, iteT ?_⟩
    exact rd_one T (x := "BadCube") (f := "cube") (u := .none) (by decide +kernel) k
  · cases hk
    refine ⟨_, rfl, rfl, _, rfl, iteF ?_⟩
    refine ⟨_, rfl, rfl, _, rfl, iteF ?_⟩
    refine ⟨_, rfl, rfl, _, rfl, iteF ?_⟩
    refine ⟨_, rfl, rfl, _, rfl, iteF ?_⟩
    refine ⟨_, rfl, rfl, _, rfl, iteT ?_⟩
    exact rd_one T (x := "BadOther") (f := "other") (u := .none) (by decide +kernel) k
  · cases hk
    refine ⟨_, rfl, rfl, _, rfl, iteF ?_⟩
    refine ⟨_, rfl, rfl, _, rfl, iteF ?_⟩
    refine ⟨_, rfl, rfl, _, rfl, iteF ?_⟩
    refine ⟨_, rfl, rfl, _, rfl, iteF ?_⟩
    refine ⟨_, rfl, rfl, _, rfl, iteF ?_⟩
    refine ⟨_, rfl, rfl, _, rfl, iteT ?_⟩
    exact rd_one T (x := "BadCubes") (f := "index") (u := .none) (by decide +kernel) k
  · cases hk
    refine ⟨_, rfl, rfl, _, rfl, iteF ?_⟩
    refine ⟨_, rfl, rfl, _, rfl, iteF ?_⟩
    refine ⟨_, rfl, rfl, _, rfl, iteF ?_⟩
    refine ⟨_, rfl, rfl, _, rfl, iteF ?_⟩
    refine ⟨_, rfl, rfl, _, rfl, iteF ?_⟩
    refine ⟨_, rfl, rfl, _, rfl, iteF ?_⟩
    refine ⟨_, rfl, rfl, _, rfl, iteT ?_⟩
    exact rd_one T (x := "BadLevers") (f := "index") (u := .none) (by decide +kernel) k
  · cases hk
    refine ⟨_, rfl, rfl, _, rfl, iteF ?_⟩
    refine ⟨_, rfl, rfl, _, rfl, iteF ?_⟩
    refine ⟨_, rfl, rfl, _, rfl, iteF ?_⟩
    refine ⟨_, rfl, rfl, _, rfl, iteF ?_⟩
    refine ⟨_, rfl, rfl, _, rfl, iteF ?_⟩
    refine ⟨_, rfl, rfl, _, rfl, iteF ?_⟩
    refine ⟨_, rfl, rfl, _, rfl, iteF ?_⟩
    refine ⟨_, rfl, rfl, _, rfl, iteT ?_⟩
    exact rd_one T (x := "BadTable") (f := "index") (u := .none) (by decide +kernel) k
  · cases hk
    refine ⟨_, rfl, rfl, _, rfl, iteF ?_⟩
    refine ⟨_, rfl, rfl, _, rfl, iteF ?_⟩
    refine ⟨_, rfl, rfl, _, rfl, iteF ?_⟩
    refine ⟨_, rfl, rfl, _, rfl, iteF ?_⟩
    refine ⟨_, rfl, rfl, _, rfl, iteF ?_⟩
    refine ⟨_, rfl, rfl, _, rfl, iteF ?_⟩
    refine ⟨_, rfl, rfl, _, rfl, iteF ?_⟩
    refine ⟨_, rfl, rfl, _, rfl, iteF ?_⟩
    refine ⟨_, rfl, rfl, _, rfl, iteT ?_⟩
    exact rd_one T (x := "BadBursts") (f := "index") (u := .none) (by decide +kernel) k
  · cases hk
    refine ⟨_, rfl, rfl, _, rfl, iteF ?_⟩
    refine ⟨_, rfl, rfl, _, rfl, iteF ?_⟩
    refine ⟨_, rfl, rfl, _, rfl, iteF ?_⟩
    refine ⟨_, rfl, rfl, _, rfl, iteF ?_⟩
    refine ⟨_, rfl, rfl, _, rfl, iteF ?_⟩
    refine ⟨_, rfl, rfl, _, rfl, iteF ?_⟩
    refine ⟨_, rfl, rfl, _, rfl, iteF ?_⟩
    refine ⟨_, rfl, rfl, _, rfl, iteF ?_⟩
    refine ⟨_, rfl, rfl, _, rfl, iteF ?_⟩
    exact rd_one T (x := "BadPanel") (f := "panel") (u := .none) (by decide +kernel) k
theorem sc_panel_made : FnScope ["at", "x", "made"] ["at", "x"] (defScope s_law_panel_made) := ⟨rfl, rfl, rfl, by decide +kernel, rfl, by decide +kernel, by decide +kernel⟩
theorem ok_panel_made (F : FnP K "_law_panel_made" s_law_panel_made f fd) (T : Tx K mg) (hI : ∀ p ∈ cls, IniOk P w K mg base p) : FnOk P w K mg base CX0 3 f fd ["at", "x"] (spMade K 10 19) := by
  refine F.ok sc_panel_made (fun vs H Q E h => by obtain ⟨i, v, x, rfl, _⟩ := h; rfl) (fun cdv A outer s H vs Q E hr h => ⟨_, PSs.nox
    (pss_cons (ps_if (pt_cmpR op_eq (pv 0) pe_int (nomark _)) (pss_cons (ps_set (i := 2) sc_panel_made.nd rfl (Or.inl rfl) (pe_C T hI (x := "BadIndex") (f := "index") (by decide +kernel) hr (by rfl) (pv 1)))
      (pss_one (ps_ret (pe_tup (pa_cons (pv 2) (pa_cons (pe_erF (pv 2)) pa_nil)))))) pss_nil)
    (pss_cons (ps_if (pt_cmpR op_eq (pv 0) pe_int (nomark _)) (pss_cons (ps_set (i := 2) sc_panel_made.nd rfl (Or.inl rfl) (pe_CK T hI (x := "BadSign") (f := "sign") (by decide +kernel) hr (by rfl) (pv 1)))
      (pss_one (ps_ret (pe_tup (pa_cons (pv 2) (pa_cons (pe_erF (pv 2)) pa_nil)))))) pss_nil)
    (pss_cons (ps_if (pt_cmpR op_eq (pv 0) pe_int (nomark _)) (pss_cons (ps_set (i := 2) sc_panel_made.nd rfl (Or.inl rfl) (pe_C T hI (x := "BadOn") (f := "index") (by decide +kernel) hr (by rfl) (pv 1)))
      (pss_one (ps_ret (pe_tup (pa_cons (pv 2) (pa_cons (pe_erF (pv 2)) pa_nil)))))) pss_nil)
    (pss_cons (ps_if (pt_cmpR op_eq (pv 0) pe_int (nomark _)) (pss_cons (ps_set (i := 2) sc_panel_made.nd rfl (Or.inl rfl) (pe_C T hI (x := "BadOff") (f := "index") (by decide +kernel) hr (by rfl) (pv 1)))
      (pss_one (ps_ret (pe_tup (pa_cons (pv 2) (pa_cons (pe_erF (pv 2)) pa_nil)))))) pss_nil)
    (pss_cons (ps_if (pt_cmpR op_eq (pv 0) pe_int (nomark _)) (pss_cons (ps_set (i := 2) sc_panel_made.nd rfl (Or.inl rfl) (pe_CK T hI (x := "BadClash") (f := "cell") (by decide +kernel) hr (by rfl) (pv 1)))
      (pss_one (ps_ret (pe_tup (pa_cons (pv 2) (pa_cons (pe_erF (pv 2)) pa_nil)))))) pss_nil)
    (pss_cons (ps_if (pt_cmpR op_eq (pv 0) pe_int (nomark _)) (pss_cons (ps_set (i := 2) sc_panel_made.nd rfl (Or.inl rfl) (pe_C T hI (x := "BadPanelText") (f := "line") (by decide +kernel) hr (by rfl) (pv 1)))
      (pss_one (ps_ret (pe_tup (pa_cons (pv 2) (pa_cons (pe_erF (pv 2)) pa_nil)))))) pss_nil)
    (pss_cons (ps_if (pt_cmpR op_eq (pv 0) pe_int (nomark _)) (pss_cons (ps_set (i := 2) sc_panel_made.nd rfl (Or.inl rfl) (pe_C T hI (x := "BadPath") (f := "path") (by decide +kernel) hr (by rfl) (pv 1)))
      (pss_one (ps_ret (pe_tup (pa_cons (pv 2) (pa_cons (pe_erF (pv 2)) pa_nil)))))) pss_nil)
    (pss_cons (ps_if (pt_cmpR op_eq (pv 0) pe_int (nomark _)) (pss_cons (ps_set (i := 2) sc_panel_made.nd rfl (Or.inl rfl) (pe_CK T hI (x := "BadStep") (f := "step") (by decide +kernel) hr (by rfl) (pv 1)))
      (pss_one (ps_ret (pe_tup (pa_cons (pv 2) (pa_cons (pe_erF (pv 2)) pa_nil)))))) pss_nil)
    (pss_cons (ps_set (i := 2) sc_panel_made.nd rfl (Or.inl rfl) (pe_C T hI (x := "BadSteps") (f := "index") (by decide +kernel) hr (by rfl) (pv 1)))
      (pss_one (ps_ret (pe_tup (pa_cons (pv 2) (pa_cons (pe_erF (pv 2)) pa_nil)))))))))))))), ?_⟩)
  obtain ⟨i, v, x, rfl, h1, h2, hk, k⟩ := h
  have hi : i = 10 ∨ i = 11 ∨ i = 12 ∨ i = 13 ∨ i = 14 ∨ i = 15 ∨ i = 16 ∨ i = 17 ∨ i = 18 := by omega
  rcases hi with rfl | rfl | rfl | rfl | rfl | rfl | rfl | rfl | rfl
  · cases hk
    refine ⟨_, rfl, rfl, _, rfl, iteT ?_⟩
    exact rd_one T (x := "BadIndex") (f := "index") (u := .none) (by decide +kernel) k
  · cases hk
    refine ⟨_, rfl, rfl, _, rfl, iteF ?_⟩
    refine ⟨_, rfl, rfl, _, rfl, iteT ?_⟩
    exact rd_one T (x := "BadSign") (f := "sign") (u := .none) (by decide +kernel) k
  · cases hk
    refine ⟨_, rfl, rfl, _, rfl, iteF ?_⟩
    refine ⟨_, rfl, rfl, _, rfl, iteF ?_⟩
    refine ⟨_, rfl, rfl, _, rfl, iteT ?_⟩
    exact rd_one T (x := "BadOn") (f := "index") (u := .none) (by decide +kernel) k
  · cases hk
    refine ⟨_, rfl, rfl, _, rfl, iteF ?_⟩
    refine ⟨_, rfl, rfl, _, rfl, iteF ?_⟩
    refine ⟨_, rfl, rfl, _, rfl, iteF ?_⟩
    refine ⟨_, rfl, rfl, _, rfl, iteT ?_⟩
    exact rd_one T (x := "BadOff") (f := "index") (u := .none) (by decide +kernel) k
  · cases hk
    refine ⟨_, rfl, rfl, _, rfl, iteF ?_⟩
    refine ⟨_, rfl, rfl, _, rfl, iteF ?_⟩
    refine ⟨_, rfl, rfl, _, rfl, iteF ?_⟩
    refine ⟨_, rfl, rfl, _, rfl, iteF ?_⟩
    refine ⟨_, rfl, rfl, _, rfl, iteT ?_⟩
    exact rd_one T (x := "BadClash") (f := "cell") (u := .none) (by decide +kernel) k
  · cases hk
    refine ⟨_, rfl, rfl, _, rfl, iteF ?_⟩
    refine ⟨_, rfl, rfl, _, rfl, iteF ?_⟩
    refine ⟨_, rfl, rfl, _, rfl, iteF ?_⟩
    refine ⟨_, rfl, rfl, _, rfl, iteF ?_⟩
    refine ⟨_, rfl, rfl, _, rfl, iteF ?_⟩
    refine ⟨_, rfl, rfl, _, rfl, iteT ?_⟩
    exact rd_one T (x := "BadPanelText") (f := "line") (u := .none) (by decide +kernel) k
  · cases hk
    refine ⟨_, rfl, rfl, _, rfl, iteF ?_⟩
    refine ⟨_, rfl, rfl, _, rfl, iteF ?_⟩
    refine ⟨_, rfl, rfl, _, rfl, iteF ?_⟩
    refine ⟨_, rfl, rfl, _, rfl, iteF ?_⟩
    refine ⟨_, rfl, rfl, _, rfl, iteF ?_⟩
    refine ⟨_, rfl, rfl, _, rfl, iteF ?_⟩
    refine ⟨_, rfl, rfl, _, rfl, iteT ?_⟩
    exact rd_one T (x := "BadPath") (f := "path") (u := .none) (by decide +kernel) k
  · cases hk
    refine ⟨_, rfl, rfl, _, rfl, iteF ?_⟩
    refine ⟨_, rfl, rfl, _, rfl, iteF ?_⟩
    refine ⟨_, rfl, rfl, _, rfl, iteF ?_⟩
    refine ⟨_, rfl, rfl, _, rfl, iteF ?_⟩
    refine ⟨_, rfl, rfl, _, rfl, iteF ?_⟩
    refine ⟨_, rfl, rfl, _, rfl, iteF ?_⟩
    refine ⟨_, rfl, rfl, _, rfl, iteF ?_⟩
    refine ⟨_, rfl, rfl, _, rfl, iteT ?_⟩
    exact rd_one T (x := "BadStep") (f := "step") (u := .none) (by decide +kernel) k
  · cases hk
    refine ⟨_, rfl, rfl, _, rfl, iteF ?_⟩
    refine ⟨_, rfl, rfl, _, rfl, iteF ?_⟩
    refine ⟨_, rfl, rfl, _, rfl, iteF ?_⟩
    refine ⟨_, rfl, rfl, _, rfl, iteF ?_⟩
    refine ⟨_, rfl, rfl, _, rfl, iteF ?_⟩
    refine ⟨_, rfl, rfl, _, rfl, iteF ?_⟩
    refine ⟨_, rfl, rfl, _, rfl, iteF ?_⟩
    refine ⟨_, rfl, rfl, _, rfl, iteF ?_⟩
    exact rd_one T (x := "BadSteps") (f := "index") (u := .none) (by decide +kernel) k
theorem sc_machine_made : FnScope ["at", "x", "made"] ["at", "x"] (defScope s_law_machine_made) := ⟨rfl, rfl, rfl, by decide +kernel, rfl, by decide +kernel, by decide +kernel⟩
theorem ok_machine_made (F : FnP K "_law_machine_made" s_law_machine_made f fd) (T : Tx K mg) (hI : ∀ p ∈ cls, IniOk P w K mg base p) : FnOk P w K mg base CX0 3 f fd ["at", "x"] (spMade K 19 26) := by
  refine F.ok sc_machine_made (fun vs H Q E h => by obtain ⟨i, v, x, rfl, _⟩ := h; rfl) (fun cdv A outer s H vs Q E hr h => ⟨_, PSs.nox
    (pss_cons (ps_if (pt_cmpR op_eq (pv 0) pe_int (nomark _)) (pss_cons (ps_set (i := 2) sc_machine_made.nd rfl (Or.inl rfl) (pe_C T hI (x := "BadMachine") (f := "machine") (by decide +kernel) hr (by rfl) (pv 1)))
      (pss_one (ps_ret (pe_tup (pa_cons (pv 2) (pa_cons (pe_erF (pv 2)) pa_nil)))))) pss_nil)
    (pss_cons (ps_if (pt_cmpR op_eq (pv 0) pe_int (nomark _)) (pss_cons (ps_set (i := 2) sc_machine_made.nd rfl (Or.inl rfl) (pe_CK T hI (x := "BadLamps") (f := "index") (by decide +kernel) hr (by rfl) (pv 1)))
      (pss_one (ps_ret (pe_tup (pa_cons (pv 2) (pa_cons (pe_erF (pv 2)) pa_nil)))))) pss_nil)
    (pss_cons (ps_if (pt_cmpR op_eq (pv 0) pe_int (nomark _)) (pss_cons (ps_set (i := 2) sc_machine_made.nd rfl (Or.inl rfl) (pe_C T hI (x := "BadStates") (f := "index") (by decide +kernel) hr (by rfl) (pv 1)))
      (pss_one (ps_ret (pe_tup (pa_cons (pv 2) (pa_cons (pe_erF (pv 2)) pa_nil)))))) pss_nil)
    (pss_cons (ps_if (pt_cmpR op_eq (pv 0) pe_int (nomark _)) (pss_cons (ps_set (i := 2) sc_machine_made.nd rfl (Or.inl rfl) (pe_C T hI (x := "BadMoves") (f := "index") (by decide +kernel) hr (by rfl) (pv 1)))
      (pss_one (ps_ret (pe_tup (pa_cons (pv 2) (pa_cons (pe_erF (pv 2)) pa_nil)))))) pss_nil)
    (pss_cons (ps_if (pt_cmpR op_eq (pv 0) pe_int (nomark _)) (pss_cons (ps_set (i := 2) sc_machine_made.nd rfl (Or.inl rfl) (pe_CK T hI (x := "BadName") (f := "name") (by decide +kernel) hr (by rfl) (pv 1)))
      (pss_one (ps_ret (pe_tup (pa_cons (pv 2) (pa_cons (pe_erF (pv 2)) pa_nil)))))) pss_nil)
    (pss_cons (ps_if (pt_cmpR op_eq (pv 0) pe_int (nomark _)) (pss_cons (ps_set (i := 2) sc_machine_made.nd rfl (Or.inl rfl) (pe_C T hI (x := "BadWalk") (f := "index") (by decide +kernel) hr (by rfl) (pv 1)))
      (pss_one (ps_ret (pe_tup (pa_cons (pv 2) (pa_cons (pe_erF (pv 2)) pa_nil)))))) pss_nil)
    (pss_cons (ps_set (i := 2) sc_machine_made.nd rfl (Or.inl rfl) (pe_C T hI (x := "BadMachineText") (f := "line") (by decide +kernel) hr (by rfl) (pv 1)))
      (pss_one (ps_ret (pe_tup (pa_cons (pv 2) (pa_cons (pe_erF (pv 2)) pa_nil)))))))))))), ?_⟩)
  obtain ⟨i, v, x, rfl, h1, h2, hk, k⟩ := h
  have hi : i = 19 ∨ i = 20 ∨ i = 21 ∨ i = 22 ∨ i = 23 ∨ i = 24 ∨ i = 25 := by omega
  rcases hi with rfl | rfl | rfl | rfl | rfl | rfl | rfl
  · cases hk
    refine ⟨_, rfl, rfl, _, rfl, iteT ?_⟩
    exact rd_one T (x := "BadMachine") (f := "machine") (u := .none) (by decide +kernel) k
  · cases hk
    refine ⟨_, rfl, rfl, _, rfl, iteF ?_⟩
    refine ⟨_, rfl, rfl, _, rfl, iteT ?_⟩
    exact rd_one T (x := "BadLamps") (f := "index") (u := .none) (by decide +kernel) k
  · cases hk
    refine ⟨_, rfl, rfl, _, rfl, iteF ?_⟩
    refine ⟨_, rfl, rfl, _, rfl, iteF ?_⟩
    refine ⟨_, rfl, rfl, _, rfl, iteT ?_⟩
    exact rd_one T (x := "BadStates") (f := "index") (u := .none) (by decide +kernel) k
  · cases hk
    refine ⟨_, rfl, rfl, _, rfl, iteF ?_⟩
    refine ⟨_, rfl, rfl, _, rfl, iteF ?_⟩
    refine ⟨_, rfl, rfl, _, rfl, iteF ?_⟩
    refine ⟨_, rfl, rfl, _, rfl, iteT ?_⟩
    exact rd_one T (x := "BadMoves") (f := "index") (u := .none) (by decide +kernel) k
  · cases hk
    refine ⟨_, rfl, rfl, _, rfl, iteF ?_⟩
    refine ⟨_, rfl, rfl, _, rfl, iteF ?_⟩
    refine ⟨_, rfl, rfl, _, rfl, iteF ?_⟩
    refine ⟨_, rfl, rfl, _, rfl, iteF ?_⟩
    refine ⟨_, rfl, rfl, _, rfl, iteT ?_⟩
    exact rd_one T (x := "BadName") (f := "name") (u := .none) (by decide +kernel) k
  · cases hk
    refine ⟨_, rfl, rfl, _, rfl, iteF ?_⟩
    refine ⟨_, rfl, rfl, _, rfl, iteF ?_⟩
    refine ⟨_, rfl, rfl, _, rfl, iteF ?_⟩
    refine ⟨_, rfl, rfl, _, rfl, iteF ?_⟩
    refine ⟨_, rfl, rfl, _, rfl, iteF ?_⟩
    refine ⟨_, rfl, rfl, _, rfl, iteT ?_⟩
    exact rd_one T (x := "BadWalk") (f := "index") (u := .none) (by decide +kernel) k
  · cases hk
    refine ⟨_, rfl, rfl, _, rfl, iteF ?_⟩
    refine ⟨_, rfl, rfl, _, rfl, iteF ?_⟩
    refine ⟨_, rfl, rfl, _, rfl, iteF ?_⟩
    refine ⟨_, rfl, rfl, _, rfl, iteF ?_⟩
    refine ⟨_, rfl, rfl, _, rfl, iteF ?_⟩
    refine ⟨_, rfl, rfl, _, rfl, iteF ?_⟩
    exact rd_one T (x := "BadMachineText") (f := "line") (u := .none) (by decide +kernel) k
theorem sc_log_made : FnScope ["at", "x", "made"] ["at", "x"] (defScope s_law_log_made) := ⟨rfl, rfl, rfl, by decide +kernel, rfl, by decide +kernel, by decide +kernel⟩
theorem ok_log_made (F : FnP K "_law_log_made" s_law_log_made f fd) (T : Tx K mg) (hI : ∀ p ∈ cls, IniOk P w K mg base p) : FnOk P w K mg base CX0 3 f fd ["at", "x"] (spMade K 26 32) := by
  refine F.ok sc_log_made (fun vs H Q E h => by obtain ⟨i, v, x, rfl, _⟩ := h; rfl) (fun cdv A outer s H vs Q E hr h => ⟨_, PSs.nox
    (pss_cons (ps_if (pt_cmpR op_eq (pv 0) pe_int (nomark _)) (pss_cons (ps_set (i := 2) sc_log_made.nd rfl (Or.inl rfl) (pe_C T hI (x := "BadCode") (f := "code") (by decide +kernel) hr (by rfl) (pv 1)))
      (pss_one (ps_ret (pe_tup (pa_cons (pv 2) (pa_cons (pe_erF (pv 2)) pa_nil)))))) pss_nil)
    (pss_cons (ps_if (pt_cmpR op_eq (pv 0) pe_int (nomark _)) (pss_cons (ps_set (i := 2) sc_log_made.nd rfl (Or.inl rfl) (pe_CK T hI (x := "BadMove") (f := "move") (by decide +kernel) hr (by rfl) (pv 1)))
      (pss_one (ps_ret (pe_tup (pa_cons (pv 2) (pa_cons (pe_erF (pv 2)) pa_nil)))))) pss_nil)
    (pss_cons (ps_if (pt_cmpR op_eq (pv 0) pe_int (nomark _)) (pss_cons (ps_set (i := 2) sc_log_made.nd rfl (Or.inl rfl) (pe_C T hI (x := "BadNets") (f := "nets") (by decide +kernel) hr (by rfl) (pv 1)))
      (pss_one (ps_ret (pe_tup (pa_cons (pv 2) (pa_cons (pe_erF (pv 2)) pa_nil)))))) pss_nil)
    (pss_cons (ps_if (pt_cmpR op_eq (pv 0) pe_int (nomark _)) (pss_cons (ps_set (i := 2) sc_log_made.nd rfl (Or.inl rfl) (pe_C T hI (x := "BadRuns") (f := "index") (by decide +kernel) hr (by rfl) (pv 1)))
      (pss_one (ps_ret (pe_tup (pa_cons (pv 2) (pa_cons (pe_erF (pv 2)) pa_nil)))))) pss_nil)
    (pss_cons (ps_if (pt_cmpR op_eq (pv 0) pe_int (nomark _)) (pss_cons (ps_set (i := 2) sc_log_made.nd rfl (Or.inl rfl) (pe_CK T hI (x := "BadLog") (f := "log") (by decide +kernel) hr (by rfl) (pv 1)))
      (pss_one (ps_ret (pe_tup (pa_cons (pv 2) (pa_cons (pe_erF (pv 2)) pa_nil)))))) pss_nil)
    (pss_cons (ps_set (i := 2) sc_log_made.nd rfl (Or.inl rfl) (pe_C T hI (x := "BadLogText") (f := "line") (by decide +kernel) hr (by rfl) (pv 1)))
      (pss_one (ps_ret (pe_tup (pa_cons (pv 2) (pa_cons (pe_erF (pv 2)) pa_nil))))))))))), ?_⟩)
  obtain ⟨i, v, x, rfl, h1, h2, hk, k⟩ := h
  have hi : i = 26 ∨ i = 27 ∨ i = 28 ∨ i = 29 ∨ i = 30 ∨ i = 31 := by omega
  rcases hi with rfl | rfl | rfl | rfl | rfl | rfl
  · cases hk
    refine ⟨_, rfl, rfl, _, rfl, iteT ?_⟩
    exact rd_one T (x := "BadCode") (f := "code") (u := .none) (by decide +kernel) k
  · cases hk
    refine ⟨_, rfl, rfl, _, rfl, iteF ?_⟩
    refine ⟨_, rfl, rfl, _, rfl, iteT ?_⟩
    exact rd_one T (x := "BadMove") (f := "move") (u := .none) (by decide +kernel) k
  · cases hk
    refine ⟨_, rfl, rfl, _, rfl, iteF ?_⟩
    refine ⟨_, rfl, rfl, _, rfl, iteF ?_⟩
    refine ⟨_, rfl, rfl, _, rfl, iteT ?_⟩
    exact rd_one T (x := "BadNets") (f := "nets") (u := .none) (by decide +kernel) k
  · cases hk
    refine ⟨_, rfl, rfl, _, rfl, iteF ?_⟩
    refine ⟨_, rfl, rfl, _, rfl, iteF ?_⟩
    refine ⟨_, rfl, rfl, _, rfl, iteF ?_⟩
    refine ⟨_, rfl, rfl, _, rfl, iteT ?_⟩
    exact rd_one T (x := "BadRuns") (f := "index") (u := .none) (by decide +kernel) k
  · cases hk
    refine ⟨_, rfl, rfl, _, rfl, iteF ?_⟩
    refine ⟨_, rfl, rfl, _, rfl, iteF ?_⟩
    refine ⟨_, rfl, rfl, _, rfl, iteF ?_⟩
    refine ⟨_, rfl, rfl, _, rfl, iteF ?_⟩
    refine ⟨_, rfl, rfl, _, rfl, iteT ?_⟩
    exact rd_one T (x := "BadLog") (f := "log") (u := .none) (by decide +kernel) k
  · cases hk
    refine ⟨_, rfl, rfl, _, rfl, iteF ?_⟩
    refine ⟨_, rfl, rfl, _, rfl, iteF ?_⟩
    refine ⟨_, rfl, rfl, _, rfl, iteF ?_⟩
    refine ⟨_, rfl, rfl, _, rfl, iteF ?_⟩
    refine ⟨_, rfl, rfl, _, rfl, iteF ?_⟩
    exact rd_one T (x := "BadLogText") (f := "line") (u := .none) (by decide +kernel) k
theorem sc_made_at : FnScope ["at", "x"] ["at", "x"] (defScope s_law_made_at) := ⟨rfl, rfl, rfl, by decide +kernel, rfl, by decide +kernel, by decide +kernel⟩
theorem ok_made_at (F : FnP K "_law_made_at" s_law_made_at f fd) (T : Tx K mg)
    (F1 : FnP K "_law_cube_made" s_law_cube_made f1 d1) (g1 : mg "_law_cube_made" = some (.ref f1))
    (F2 : FnP K "_law_panel_made" s_law_panel_made f2 d2) (g2 : mg "_law_panel_made" = some (.ref f2))
    (F3 : FnP K "_law_machine_made" s_law_machine_made f3 d3) (g3 : mg "_law_machine_made" = some (.ref f3))
    (F4 : FnP K "_law_log_made" s_law_log_made f4 d4) (g4 : mg "_law_log_made" = some (.ref f4)) (hI : ∀ p ∈ cls, IniOk P w K mg base p) : FnOk P w K mg base CX0 4 f fd ["at", "x"] (spMade K 0 32) := by
  have b1 : Binds K d1 ["at", "x"] [] := F1.bindsN fun _ _ _ _ _ _ us hl => match us, hl with | [_, _], _ => rfl
  have G1 := ok_cube_made (P := P) (w := w) (base := base) F1 T hI
  have b2 : Binds K d2 ["at", "x"] [] := F2.bindsN fun _ _ _ _ _ _ us hl => match us, hl with | [_, _], _ => rfl
  have G2 := ok_panel_made (P := P) (w := w) (base := base) F2 T hI
  have b3 : Binds K d3 ["at", "x"] [] := F3.bindsN fun _ _ _ _ _ _ us hl => match us, hl with | [_, _], _ => rfl
  have G3 := ok_machine_made (P := P) (w := w) (base := base) F3 T hI
  have b4 : Binds K d4 ["at", "x"] [] := F4.bindsN fun _ _ _ _ _ _ us hl => match us, hl with | [_, _], _ => rfl
  have G4 := ok_log_made (P := P) (w := w) (base := base) F4 T hI
  refine F.ok sc_made_at (fun vs H Q E h => by obtain ⟨i, v, x, rfl, _⟩ := h; rfl) (fun cdv A outer s H vs Q E hr h => ⟨_, PSs.nox
    (pss_cons (ps_if (pt_cmpR op_lt (pv 0) pe_int (nomark _)) (pss_one (ps_ret (pe_call G1 hr (by rfl) g1 F1.kp b1 .nil pass0 (pa_cons (pv 0) (pa_cons (pv 1) pa_nil))))) pss_nil)
    (pss_cons (ps_if (pt_cmpR op_lt (pv 0) pe_int (nomark _)) (pss_one (ps_ret (pe_call G2 hr (by rfl) g2 F2.kp b2 .nil pass0 (pa_cons (pv 0) (pa_cons (pv 1) pa_nil))))) pss_nil)
    (pss_one (ps_ret (pe_ifExp (pt_cmpR op_lt (pv 0) pe_int (nomark _)) (pe_call G3 hr (by rfl) g3 F3.kp b3 .nil pass0 (pa_cons (pv 0) (pa_cons (pv 1) pa_nil))) (pe_call G4 hr (by rfl) g4 F4.kp b4 .nil pass0 (pa_cons (pv 0) (pa_cons (pv 1) pa_nil)))))))), ?_⟩)
  obtain ⟨i, v, x, rfl, h1, h2, hk, k⟩ := h
  refine ⟨_, rfl, _, _, rfl, rfl, _, rfl, ite2 (fun c => ?_) (fun c => ?_)⟩
  · have c1 := of_decide_eq_true c
    exact ⟨_, rfl, _, rfl, i, v, x, rfl, by omega, by omega, hk, k⟩
  · have c1 : ¬ ((i : Int) < 10) := fun z => c (decide_eq_true z)
    refine ⟨_, rfl, _, _, rfl, rfl, _, rfl, ite2 (fun c => ?_) (fun c => ?_)⟩
    · have c2 := of_decide_eq_true c
      exact ⟨_, rfl, _, rfl, i, v, x, rfl, by omega, by omega, hk, k⟩
    · have c2 : ¬ ((i : Int) < 19) := fun z => c (decide_eq_true z)
      refine ⟨_, rfl, _, _, rfl, rfl, _, rfl, ite2 (fun c => ?_) (fun c => ?_)⟩
      · have c3 := of_decide_eq_true c
        exact ⟨_, rfl, _, rfl, i, v, x, rfl, by omega, by omega, hk, k⟩
      · have c3 : ¬ ((i : Int) < 26) := fun z => c (decide_eq_true z)
        exact ⟨_, rfl, _, rfl, i, v, x, rfl, by omega, by omega, hk, k⟩
end
end K0

set_option Elab.async false
set_option linter.all false
set_option maxRecDepth 100000
set_option maxHeartbeats 4000000
namespace K0
open PySem PySem.Spec PyProof.Rows L2 EV He
abbrev kA : Key := Sum.inr ("a" : PySem.Str)
abbrev kM : Key := Sum.inr ("more" : PySem.Str)
/-- a drawn thing -/
def Tg (H : Hp) (v : V) : Prop := Fl v ∨ (∃ (t : Addr) (i : Int), v = .ref t ∧ H t = some (.tup [.int 1, .int i])) ∨
  (∃ (l b : Addr) (i : Int), v = .ref l ∧ H l = some (.lst [.int i, .ref b]) ∧ H b = some (.lst [.int 1]) ∧ l ≠ b) ∨
  ∃ (d : Addr) (i : Int), v = .ref d ∧ H d = some (.dK [(kA, .int i)])
def spVery : Sp := fun vs H Q _ => ∃ v : V, vs = [v, v] ∧ Tg H v ∧ ∀ H', Same H H' → Q (.bl true) H'
theorem same_back {H H' : Hp} {l : Addr} {o u : HO} (h : H l = some o) (s : Same (upd (upd H l u) l o) H') : Same H H' := fun c z e => by
  refine s c z ?_
  by_cases hc : c = l
  · rw [hc, upd_same, ← h, ← hc, e]
  · rw [upd_ne hc, upd_ne hc]
    exact e
section
variable {P : Program} {w : World} {K : PySem.W.Frag} {mg : PySem.Str → Option Value} {base : Heap} {f f2 : Addr} {fd d2 : FuncData}
theorem sc_start : FnScope ["script"] ["script"] (defScope s_law_start) := ⟨rfl, rfl, rfl, by decide +kernel, rfl, by decide +kernel, by decide +kernel⟩
def spStart (K : PySem.W.Frag) : Sp := fun vs H Q _ => ∃ (a : Addr) (ns : List Int), vs = [.ref a] ∧ SqL K H a (ns.map V.int) ∧ ns.length ≤ 63 ∧ ∀ p q H', Same H H' → Dw H' p q 0 → H p = none → H q = none → Q (.ref p) H'
theorem ok_start (F : FnP K "_law_start" s_law_start f fd) (T : Tx K mg) : FnOk P w K mg base CX0 1 f fd ["script"] (spStart K) := by
  refine F.ok sc_start (fun vs H Q E h => by obtain ⟨a, ns, rfl, _⟩ := h; rfl) (fun cdv A outer s H vs Q E hr h => ⟨_, PSs.nox
    (pss_one (ps_ret (pe_lst (pa_cons (pe_callTy call_list_of (by rfl) (T.fr "list" (by decide +kernel)) boot_list (pa_cons (pv 0) pa_nil)) (pa_cons pe_int (pa_cons pe_int (pa_cons pe_int pa_nil))))))), ?_⟩)
  obtain ⟨a, ns, rfl, hs, hl, k⟩ := h
  refine ⟨_, rfl, a, _, rfl, .inl hs, fun q nq => ⟨(by show 4 ≤ sizeLine; decide), fun p np => ?_⟩⟩
  refine k p q _ ((same_new nq).trans (same_new np)) ⟨⟨ns, 0, 29, upd_same, same_new np _ _ upd_same, by decide, by decide, by decide, by omega⟩, by decide⟩ (Same.free (same_new nq) np) nq
theorem hd_of {k : Nat} {A : Around} (r : Room k A) : A.units < cLine := by
  have h := r.un
  omega
theorem sc_very : FnScope ["found", "due", "same"] ["found", "due"] (defScope s_law_very) := ⟨rfl, rfl, rfl, by decide +kernel, rfl, by decide +kernel, by decide +kernel⟩
theorem ok_very (F : FnP K "_law_very" s_law_very f fd) (T : Tx K mg) : FnOk P w K mg base CX0 4 f fd ["found", "due"] spVery := by
  refine F.ok sc_very (fun vs H Q E h => by obtain ⟨v, rfl, _⟩ := h; rfl) (fun cdv A outer s H vs Q E hr h => ⟨_, PSs.nox
    (pss_cons (ps_if (pt_val (pe_callB call_isi (by rfl) (T.fr "isinstance" (by decide +kernel)) boot_isinstance (pa_cons (pv 1) (pa_cons (pe_bltn (v := .ty "list") (by rfl) (T.fr "list" (by decide +kernel)) boot_list rfl) pa_nil)))) (pss_cons (ps_expr (pe_bm PySem.F.plainAttrs_list PySem.F.slot_list_append PySem.F.type_list_append mt_append (pv 1) (pa_cons pe_str pa_nil)))
      (pss_cons (ps_set (i := 2) sc_very.nd rfl (Or.inl rfl) (pe_and (pe_callB call_isi (by rfl) (T.fr "isinstance" (by decide +kernel)) boot_isinstance (pa_cons (pv 0) (pa_cons (pe_bltn (v := .ty "list") (by rfl) (T.fr "list" (by decide +kernel)) boot_list rfl) pa_nil))) (pe_and (pe_cmpR op_eq (pe_callB call_len_seq (by rfl) (T.fr "len" (by decide +kernel)) boot_len (pa_cons (pv 0) pa_nil)) (pe_callB call_len_seq (by rfl) (T.fr "len" (by decide +kernel)) boot_len (pa_cons (pv 1) pa_nil)) (nomark _)) (pe_one (pe_cmpR op_eq (pe_ix ix_list (pv 0) (pe_un un_neg pe_int) (fun _ _ => rfl)) pe_str (nomark _))))))
      (pss_cons (ps_expr (pe_bm0 PySem.F.plainAttrs_list PySem.F.slot_list_pop PySem.F.type_list_pop mt_pop (pv 1)))
      (pss_one (ps_ret (pe_and (pv 2) (pe_and (pe_callB call_isi (by rfl) (T.fr "isinstance" (by decide +kernel)) boot_isinstance (pa_cons (pv 0) (pa_cons (pe_bltn (v := .ty "list") (by rfl) (T.fr "list" (by decide +kernel)) boot_list rfl) pa_nil))) (pe_one (pe_cmpR (r := rEqD K) (op_eqD hr.units) (pv 0) (pv 1) (nomark _)))))))))) pss_nil)
    (pss_cons (ps_if (pt_val (pe_callB call_isi (by rfl) (T.fr "isinstance" (by decide +kernel)) boot_isinstance (pa_cons (pv 1) (pa_cons (pe_bltn (v := .ty "dict") (by rfl) (T.fr "dict" (by decide +kernel)) boot_dict rfl) pa_nil)))) (pss_cons (ps_dput (hu_of hr) (pv 1) pe_str pe_int rfl)
      (pss_cons (ps_set (i := 2) sc_very.nd rfl (Or.inl rfl) (pe_and (pe_callB call_isi (by rfl) (T.fr "isinstance" (by decide +kernel)) boot_isinstance (pa_cons (pv 0) (pa_cons (pe_bltn (v := .ty "dict") (by rfl) (T.fr "dict" (by decide +kernel)) boot_dict rfl) pa_nil))) (pe_and (pe_cmp (pc_din (hu_of hr) pe_str (pv 0)) rfl) (pe_one (pe_cmpR op_eq (pe_callB call_lenD (by rfl) (T.fr "len" (by decide +kernel)) boot_len (pa_cons (pv 0) pa_nil)) (pe_callB call_lenD (by rfl) (T.fr "len" (by decide +kernel)) boot_len (pa_cons (pv 1) pa_nil)) (nomark _))))))
      (pss_cons (ps_expr (pe_dpop1 (pv 1) pe_str ⟨by rfl, by rfl, by rfl, by rfl⟩))
      (pss_one (ps_ret (pe_and (pv 2) (pe_and (pe_callB call_isi (by rfl) (T.fr "isinstance" (by decide +kernel)) boot_isinstance (pa_cons (pv 0) (pa_cons (pe_bltn (v := .ty "dict") (by rfl) (T.fr "dict" (by decide +kernel)) boot_dict rfl) pa_nil))) (pe_one (pe_cmpR (op_eq_dict (hd_of hr)) (pv 0) (pv 1) (nomark _)))))))))) pss_nil)
    (pss_cons (ps_if (pt_cmp (pc_isN (pv 1))) (pss_one (ps_ret (pe_cmp (pc_isN (pv 0)) rfl))) pss_nil)
    (pss_cons (ps_if (pt_val (pe_callB call_isi (by rfl) (T.fr "isinstance" (by decide +kernel)) boot_isinstance (pa_cons (pv 1) (pa_cons (pe_bltn (v := .ty "bool") (by rfl) (T.fr "bool" (by decide +kernel)) boot_bool rfl) pa_nil)))) (pss_one (ps_ret (pe_and (pe_callB call_isi (by rfl) (T.fr "isinstance" (by decide +kernel)) boot_isinstance (pa_cons (pv 0) (pa_cons (pe_bltn (v := .ty "bool") (by rfl) (T.fr "bool" (by decide +kernel)) boot_bool rfl) pa_nil))) (pe_one (pe_cmpR op_eq (pv 0) (pv 1) (nomark _)))))) pss_nil)
    (pss_cons (ps_if (pt_val (pe_callB call_isi (by rfl) (T.fr "isinstance" (by decide +kernel)) boot_isinstance (pa_cons (pv 1) (pa_cons (pe_bltn (v := .ty "int") (by rfl) (T.fr "int" (by decide +kernel)) boot_int rfl) pa_nil)))) (pss_one (ps_ret (pe_and (pe_callB call_isi (by rfl) (T.fr "isinstance" (by decide +kernel)) boot_isinstance (pa_cons (pv 0) (pa_cons (pe_bltn (v := .ty "int") (by rfl) (T.fr "int" (by decide +kernel)) boot_int rfl) pa_nil))) (pe_and (pe_not (pe_callB call_isi (by rfl) (T.fr "isinstance" (by decide +kernel)) boot_isinstance (pa_cons (pv 0) (pa_cons (pe_bltn (v := .ty "bool") (by rfl) (T.fr "bool" (by decide +kernel)) boot_bool rfl) pa_nil)))) (pe_one (pe_cmpR op_eq (pv 0) (pv 1) (nomark _))))))) pss_nil)
    (pss_cons (ps_if (pt_val (pe_callB call_isi (by rfl) (T.fr "isinstance" (by decide +kernel)) boot_isinstance (pa_cons (pv 1) (pa_cons (pe_bltn (v := .ty "str") (by rfl) (T.fr "str" (by decide +kernel)) boot_str rfl) pa_nil)))) (pss_one (ps_ret (pe_and (pe_callB call_isi (by rfl) (T.fr "isinstance" (by decide +kernel)) boot_isinstance (pa_cons (pv 0) (pa_cons (pe_bltn (v := .ty "str") (by rfl) (T.fr "str" (by decide +kernel)) boot_str rfl) pa_nil))) (pe_one (pe_cmpR op_eq (pv 0) (pv 1) (nomark _)))))) pss_nil)
    (pss_one (ps_ret (pe_and (pe_callB call_isi (by rfl) (T.fr "isinstance" (by decide +kernel)) boot_isinstance (pa_cons (pv 0) (pa_cons (pe_bltn (v := .ty "tuple") (by rfl) (T.fr "tuple" (by decide +kernel)) boot_tuple rfl) pa_nil))) (pe_one (pe_cmpR (r := rEqD K) (op_eqD hr.units) (pe_callTy call_list_of (by rfl) (T.fr "list" (by decide +kernel)) boot_list (pa_cons (pv 0) pa_nil)) (pe_callTy call_list_of (by rfl) (T.fr "list" (by decide +kernel)) boot_list (pa_cons (pv 1) pa_nil)) (nomark _)))))))))))), ?_⟩)
  obtain ⟨v, rfl, h, k⟩ := h
  rcases h with hf | ⟨t, i, rfl, ht⟩ | ⟨l, b, i, rfl, hl, hb, lb⟩ | ⟨d, i, rfl, hd⟩
  · cases v with
    | non =>
      have HT : tyN H (.non) "NoneType" := rfl
      refine ⟨_, rfl, _, .ty "list", .type "NoneType", .type "list", false, rfl, .ty _, tyX_of HT, kit_ty (show kitB "NoneType" "list" = some false from by decide +kernel), _, rfl, iteF ?_⟩
      refine ⟨_, rfl, _, .ty "dict", .type "NoneType", .type "dict", false, rfl, .ty _, tyX_of HT, kit_ty (show kitB "NoneType" "dict" = some false from by decide +kernel), _, rfl, iteF ?_⟩
      refine ⟨_, rfl, _, rfl, iteT ?_⟩
      exact ⟨_, rfl, k _ (Same.refl _)⟩
    | bl b =>
      have HT : tyN H (.bl b) "bool" := rfl
      refine ⟨_, rfl, _, .ty "list", .type "bool", .type "list", false, rfl, .ty _, tyX_of HT, kit_ty (show kitB "bool" "list" = some false from by decide +kernel), _, rfl, iteF ?_⟩
      refine ⟨_, rfl, _, .ty "dict", .type "bool", .type "dict", false, rfl, .ty _, tyX_of HT, kit_ty (show kitB "bool" "dict" = some false from by decide +kernel), _, rfl, iteF ?_⟩
      refine ⟨_, rfl, _, rfl, iteF ?_⟩
      refine ⟨_, rfl, _, .ty "bool", .type "bool", .type "bool", true, rfl, .ty _, tyX_of HT, kit_ty (show kitB "bool" "bool" = some true from by decide +kernel), _, rfl, iteT ?_⟩
      exact ⟨_, rfl, _, .ty "bool", .type "bool", .type "bool", true, rfl, .ty _, tyX_of HT, kit_ty (show kitB "bool" "bool" = some true from by decide +kernel), _, rfl, iteT ⟨_, rfl, _, rfl, rfl, by rw [decide_eq_true rfl]; exact k _ (Same.refl _)⟩⟩
    | int i =>
      have HT : tyN H (.int i) "int" := rfl
      refine ⟨_, rfl, _, .ty "list", .type "int", .type "list", false, rfl, .ty _, tyX_of HT, kit_ty (show kitB "int" "list" = some false from by decide +kernel), _, rfl, iteF ?_⟩
      refine ⟨_, rfl, _, .ty "dict", .type "int", .type "dict", false, rfl, .ty _, tyX_of HT, kit_ty (show kitB "int" "dict" = some false from by decide +kernel), _, rfl, iteF ?_⟩
      refine ⟨_, rfl, _, rfl, iteF ?_⟩
      refine ⟨_, rfl, _, .ty "bool", .type "int", .type "bool", false, rfl, .ty _, tyX_of HT, kit_ty (show kitB "int" "bool" = some false from by decide +kernel), _, rfl, iteF ?_⟩
      refine ⟨_, rfl, _, .ty "int", .type "int", .type "int", true, rfl, .ty _, tyX_of HT, kit_ty (show kitB "int" "int" = some true from by decide +kernel), _, rfl, iteT ?_⟩
      exact ⟨_, rfl, _, .ty "int", .type "int", .type "int", true, rfl, .ty _, tyX_of HT, kit_ty (show kitB "int" "int" = some true from by decide +kernel), _, rfl, iteT ⟨_, rfl, _, .ty "bool", .type "int", .type "bool", false, rfl, .ty _, tyX_of HT, kit_ty (show kitB "int" "bool" = some false from by decide +kernel), _, rfl, _, rfl, iteT ⟨_, rfl, _, rfl, rfl, by rw [decide_eq_true rfl]; exact k _ (Same.refl _)⟩⟩⟩
    | str x =>
      have HT : tyN H (.str x) "str" := rfl
      refine ⟨_, rfl, _, .ty "list", .type "str", .type "list", false, rfl, .ty _, tyX_of HT, kit_ty (show kitB "str" "list" = some false from by decide +kernel), _, rfl, iteF ?_⟩
      refine ⟨_, rfl, _, .ty "dict", .type "str", .type "dict", false, rfl, .ty _, tyX_of HT, kit_ty (show kitB "str" "dict" = some false from by decide +kernel), _, rfl, iteF ?_⟩
      refine ⟨_, rfl, _, rfl, iteF ?_⟩
      refine ⟨_, rfl, _, .ty "bool", .type "str", .type "bool", false, rfl, .ty _, tyX_of HT, kit_ty (show kitB "str" "bool" = some false from by decide +kernel), _, rfl, iteF ?_⟩
      refine ⟨_, rfl, _, .ty "int", .type "str", .type "int", false, rfl, .ty _, tyX_of HT, kit_ty (show kitB "str" "int" = some false from by decide +kernel), _, rfl, iteF ?_⟩
      refine ⟨_, rfl, _, .ty "str", .type "str", .type "str", true, rfl, .ty _, tyX_of HT, kit_ty (show kitB "str" "str" = some true from by decide +kernel), _, rfl, iteT ?_⟩
      exact ⟨_, rfl, _, .ty "str", .type "str", .type "str", true, rfl, .ty _, tyX_of HT, kit_ty (show kitB "str" "str" = some true from by decide +kernel), _, rfl, iteT ⟨_, rfl, _, rfl, rfl, by rw [decide_eq_true rfl]; exact k _ (Same.refl _)⟩⟩
    | _ => exact hf.elim
  · have HT : tyN H (.ref t) "tuple" := .inr (.inl ⟨rfl, _, ht⟩)
    refine ⟨_, rfl, _, .ty "list", .type "tuple", .type "list", false, rfl, .ty _, tyX_of HT, kit_ty (show kitB "tuple" "list" = some false from by decide +kernel), _, rfl, iteF ?_⟩
    refine ⟨_, rfl, _, .ty "dict", .type "tuple", .type "dict", false, rfl, .ty _, tyX_of HT, kit_ty (show kitB "tuple" "dict" = some false from by decide +kernel), _, rfl, iteF ?_⟩
    refine ⟨_, rfl, _, rfl, iteF ?_⟩
    refine ⟨_, rfl, _, .ty "bool", .type "tuple", .type "bool", false, rfl, .ty _, tyX_of HT, kit_ty (show kitB "tuple" "bool" = some false from by decide +kernel), _, rfl, iteF ?_⟩
    refine ⟨_, rfl, _, .ty "int", .type "tuple", .type "int", false, rfl, .ty _, tyX_of HT, kit_ty (show kitB "tuple" "int" = some false from by decide +kernel), _, rfl, iteF ?_⟩
    refine ⟨_, rfl, _, .ty "str", .type "tuple", .type "str", false, rfl, .ty _, tyX_of HT, kit_ty (show kitB "tuple" "str" = some false from by decide +kernel), _, rfl, iteF ?_⟩
    refine ⟨_, rfl, _, .ty "tuple", .type "tuple", .type "tuple", true, rfl, .ty _, tyX_of HT, kit_ty (show kitB "tuple" "tuple" = some true from by decide +kernel), _, rfl, iteT ?_⟩
    refine ⟨_, rfl, t, _, rfl, .inr (SqT.of ht), fun l1 e1 => ?_⟩
    have s1 : Same H (upd H l1 (.lst [.int 1, .int i])) := same_new e1
    refine ⟨_, rfl, t, _, rfl, .inr (SqT.of (s1 _ _ ht)), fun l2 e2 => ?_⟩
    have s2 : Same (upd H l1 (.lst [.int 1, .int i])) (upd (upd H l1 (.lst [.int 1, .int i])) l2 (.lst [.int 1, .int i])) := same_new e2
    refine ⟨.list [.int 1, .int i], .list [.int 1, .int i], .lst (SqL.of (s2 _ _ upd_same)) (.cons (.int _) (.cons (.int _) .nil)), .lst (SqL.of upd_same) (.cons (.int _) (.cons (.int _) .nil)), rfl, rfl, ?_⟩
    rw [SeqAt.eqv_refl (.list [.int 1, .int i]) rfl]
    exact k _ (s1.trans s2)
  · have HT : tyN H (.ref l) "list" := .inl ⟨rfl, _, hl⟩
    refine ⟨_, rfl, _, .ty "list", .type "list", .type "list", true, rfl, .ty _, tyX_of HT, kit_ty (show kitB "list" "list" = some true from by decide +kernel), _, rfl, iteT ?_⟩
    refine ⟨_, rfl, .inl ⟨rfl, _, SqL.of hl⟩, l, _, _, rfl, rfl, hl, (by show 2 < sizeLine; decide), ?_⟩
    have h2 : upd H l (.lst ([.int i, .ref b] ++ [.str "more"])) l = some (.lst [.int i, .ref b, .str "more"]) := upd_same
    have HT2 : tyN (upd H l (.lst ([.int i, .ref b] ++ [.str "more"]))) (.ref l) "list" := .inl ⟨rfl, _, h2⟩
    refine ⟨_, rfl, _, .ty "list", .type "list", .type "list", true, rfl, .ty _, tyX_of HT2, kit_ty (show kitB "list" "list" = some true from by decide +kernel), _, rfl, iteT ?_⟩
    refine ⟨_, rfl, l, _, rfl, .inl (SqL.of h2), _, rfl, l, _, rfl, .inl (SqL.of h2), rfl, _, rfl, ite2 (fun _ => ?_) (fun z => absurd (decide_eq_true rfl) z)⟩
    refine ⟨_, rfl, _, rfl, l, _, _, _, rfl, rfl, SqL.of h2, atI_last [V.int i, .ref b] (.str "more"), rfl, ?_⟩
    refine ⟨_, rfl, .inl ⟨rfl, _, SqL.of h2⟩, l, _, _, rfl, rfl, h2, rfl, ?_⟩
    have bk := fun H' => same_back (H' := H') (u := .lst ([.int i, .ref b] ++ [.str "more"])) hl
    have h3 : upd (upd H l (.lst ([.int i, .ref b] ++ [.str "more"]))) l (.lst [.int i, .ref b]) l = some (.lst [.int i, .ref b]) := upd_same
    have b3 : upd (upd H l (.lst ([.int i, .ref b] ++ [.str "more"]))) l (.lst [.int i, .ref b]) b = some (.lst [.int 1]) := by
      rw [upd_ne (Ne.symm lb), upd_ne (Ne.symm lb)]
      exact hb
    have HT3 : tyN (upd (upd H l (.lst ([.int i, .ref b] ++ [.str "more"]))) l (.lst [.int i, .ref b])) (.ref l) "list" := .inl ⟨rfl, _, h3⟩
    refine ⟨_, rfl, _, rfl, ite2 (fun _ => ?_) (fun z => absurd (decide_eq_true rfl) z)⟩
    refine ⟨_, rfl, _, .ty "list", .type "list", .type "list", true, rfl, .ty _, tyX_of HT3, kit_ty (show kitB "list" "list" = some true from by decide +kernel), _, rfl, iteT ?_⟩
    have dp : Dp K (upd (upd H l (.lst ([.int i, .ref b] ++ [.str "more"]))) l (.lst [.int i, .ref b])) (.ref l) (.list [.int i, .list [.int 1]]) := .lst (SqL.of h3) (.cons (.int _) (.cons (.lst (SqL.of b3) (.cons (.int _) .nil)) .nil))
    refine ⟨_, rfl, _, rfl, .list [.int i, .list [.int 1]], .list [.int i, .list [.int 1]], dp, dp, rfl, rfl, ?_⟩
    rw [SeqAt.eqv_refl (.list [.int i, .list [.int 1]]) rfl]
    exact k _ (bk _ (Same.refl _))
  · have HT : tyN H (.ref d) "dict" := .inr (.inr ⟨rfl, _, hd⟩)
    refine ⟨_, rfl, _, .ty "list", .type "dict", .type "list", false, rfl, .ty _, tyX_of HT, kit_ty (show kitB "dict" "list" = some false from by decide +kernel), _, rfl, iteF ?_⟩
    refine ⟨_, rfl, _, .ty "dict", .type "dict", .type "dict", true, rfl, .ty _, tyX_of HT, kit_ty (show kitB "dict" "dict" = some true from by decide +kernel), _, rfl, iteT ?_⟩
    refine ⟨_, rfl, d, _, rfl, DPut.k (k := kM) hd (by show 1 < sizeLine; decide), ?_⟩
    have h2 : upd H d (.dK (putK [(kA, .int i)] kM (.int 1))) d = some (.dK [(kA, .int i), (kM, .int 1)]) := upd_same
    have HT2 : tyN (upd H d (.dK (putK [(kA, .int i)] kM (.int 1)))) (.ref d) "dict" := .inr (.inr ⟨rfl, _, h2⟩)
    refine ⟨_, rfl, _, .ty "dict", .type "dict", .type "dict", true, rfl, .ty _, tyX_of HT2, kit_ty (show kitB "dict" "dict" = some true from by decide +kernel), _, rfl, iteT ?_⟩
    refine ⟨_, rfl, d, _, rfl, DGet.k (k := kM) h2, _, rfl, iteT ?_⟩
    refine ⟨_, rfl, d, _, rfl, h2, _, rfl, d, _, rfl, h2, rfl, ?_⟩
    refine ⟨_, rfl, d, rfl, .inl ⟨_, .inl h2⟩, _, kM, _, h2, rfl, rfl, ?_⟩
    have bk := fun H' => same_back (H' := H') (u := .dK (putK [(kA, .int i)] kM (.int 1))) hd
    have h3 : upd (upd H d (.dK (putK [(kA, .int i)] kM (.int 1)))) d (.dK [(kA, .int i)]) d = some (.dK [(kA, .int i)]) := upd_same
    have HT3 : tyN (upd (upd H d (.dK (putK [(kA, .int i)] kM (.int 1)))) d (.dK [(kA, .int i)])) (.ref d) "dict" := .inr (.inr ⟨rfl, _, h3⟩)
    refine ⟨_, rfl, _, rfl, ite2 (fun _ => ?_) (fun z => absurd (decide_eq_true rfl) z)⟩
    refine ⟨_, rfl, _, .ty "dict", .type "dict", .type "dict", true, rfl, .ty _, tyX_of HT3, kit_ty (show kitB "dict" "dict" = some true from by decide +kernel), _, rfl, iteT ?_⟩
    refine ⟨_, rfl, _, rfl, d, d, _, rfl, rfl, h3, h3, (by show ([kA] : List Key).Nodup; decide), fun p hp => ?_, k _ (bk _ (Same.refl _))⟩
    have hp2 : p = (kA, V.int i) := by simpa using hp
    rw [hp2]
    rfl
end
end K0

set_option Elab.async false
set_option linter.all false
set_option maxRecDepth 100000
set_option maxHeartbeats 4000000
namespace K0
open PySem PySem.Spec PyProof.Rows L2 EV He HotX L2H
def spCaught (K : PySem.W.Frag) : Sp := fun vs H Q _ => ∃ v : V, vs = [v] ∧ ∀ t l1 l2 H', Same H H' → H' t = some (.tup [.ref l1, .ref l2, .bl true]) → H' l1 = some (.lst [.int 14]) → H' l2 = some (.lst []) → Q (.ref t) H'
/-- what the suite does: the kinds of the error at a -/
def tSuite (K : PySem.W.Frag) (a : Addr) (c : Value) (d : Option Addr) : TS := tAsg (fun σ H Q => tCons (tVar 1) tNil σ H fun vs H1 => spKiQ kin K a c d vs H1 Q E0) (gName 2)
section
variable {P : Program} {w : World} {K : PySem.W.Frag} {mg : PySem.Str → Option Value} {base : Heap} {f f1 f2 f3 : Addr} {fd d1 d2 d3 : FuncData}
theorem pe_0 {X : Cx} {x : PySem.Str} {p pos : Pos} (T : Tx X.K X.mg) (hx : x ∈ plain) (hg : Gl X x) (hdb : (x == ("__debug__" : PySem.Str)) = false := by decide) : PE X (.Call (.Name x p) [] [] pos) (fun σ H Q => ∀ a, H a = none → Q (.ref a) (upd H a (exo a (ga X.K x) none))) := by
  have hn : x ∈ names := List.mem_append.mpr (.inr hx)
  have q := List.all_eq_true.mp (bA (bA (bA (bA (bA T.ex).2).2).2).2).2 x hx
  exact pe_new0 PySem.F.excBase_ValueError q (T.gb hn) (oex_of (T.exc hn)).kC hg hdb
theorem boot_VE : bootBuiltins "ValueError" = some (.type "ValueError") := by decide +kernel
theorem exm_pE (T : Tx K mg) {x : PySem.Str} (hx : x ∈ names) : PySem.W.exmOne K (.ref (ga K x)) (.ref (ga K pE)) = some true := by
  have o1 := (bA (T.exc hx)).1
  have o2 := (bA (T.exc pE_in)).1
  refine PySem.W.exm_ref (sub_be o2) (hasD_of o2) (type_of_obj o2) ?_
  show PySem.W.mroIn K (ga K x) (.ref (ga K pE)) = some true
  rw [mro_of o1]
  unfold EV.mroOf
  split
  · rename_i e
    rw [e] at *
    simp
  · simp
theorem hot_of {A : Around} {a : Addr} {oe : Obj} {c : Value} {d : Option Addr} (hz : L2N.Zn c d oe) (hv : ∃ vs, oe.data = .fields vs) : Hot1 (A.mark (some (.ref a))) (a, oe) := by
  obtain ⟨vs, e⟩ := hv
  exact ⟨rfl, vs, e, hz.2.2 vs e⟩
theorem hr1 (A : Around) (h : Room 3 A) : Room 2 A := h.mono (by decide)
theorem sc_caught : FnScope ["x", "e", "told", "plain"] ["x"] (defScope s_law_caught) := ⟨rfl, rfl, rfl, by decide +kernel, rfl, by decide +kernel, by decide +kernel⟩
theorem kin_clash : kin "BadClash" = [14] ∧ kin pE = [] := by decide +kernel
theorem ok_caught (F : FnP K "_law_caught" s_law_caught f fd) (T : Tx K mg) (hI : ∀ p ∈ cls, IniOk P w K mg base p) (FK : FnP K "_law_kinds" s_law_kinds f1 d1) (gK : mg "_law_kinds" = some (.ref f1))
    (F2 : FnP K "_law_panel_kinds" s_law_panel_kinds f2 d2) (g2 : mg "_law_panel_kinds" = some (.ref f2)) (F3 : FnP K "_law_machine_kinds" s_law_machine_kinds f3 d3) (g3 : mg "_law_machine_kinds" = some (.ref f3)) : FnOk P w K mg base CX0 4 f fd ["x"] (spCaught K) := by
  have bK : Binds K d1 ["e"] [] := FK.bindsN fun _ _ _ _ _ _ us hl => match us, hl with | [_], _ => rfl
  have GK := ok_kinds (P := P) (w := w) (base := base) FK T F2 g2 F3 g3
  obtain ⟨fdI, FI, bI, _⟩ := hI ("BadClash", "cell") (by decide +kernel)
  have o := T.one (p := ("BadClash", "cell")) (by decide +kernel)
  have R := err_of o.1 o.2
  refine F.ok sc_caught (fun vs H Q E h => by obtain ⟨v, rfl, _⟩ := h; rfl) (fun cdv A outer s H vs Q E hr h => ⟨_, PSs.nox
    (pss_cons (L2N.ps_try_as (i := 1) (c := .ref (ga K pE)) (tb := fun W _ σ H => tMkN (ga K "BadClash") "cell" (tVar 0) σ H fun cls d H' => W cls d σ H') (ts := tSuite K) (Wout := fun _ _ _ _ => False) rfl rfl sc_caught.nd rfl (by rfl)
      ⟨by rfl, by decide, .inl (T.gb pE_in)⟩ (fun u s' x => by obtain ⟨_, _, _, _, _, _, _, _, _, _, _, _, _, _, _, _, z⟩ := x; exact z.elim)
      (fun W pn xe tk _ => pss_one (L2N.ps_raise rfl tk (pmk_new R FI (hr.mono (by decide)) bI pass0 (by rfl) (T.gl _ o.1) (pv 0))))
      (fun a oe cls d pn hz hv => pss_one (ps_set (i := 2) sc_caught.nd rfl (Or.inl rfl) (pe_callQ (k := 2) (q := (a, oe)) (ok_kindsQ FK T F2 g2 F3 g3 hz.1 hz.2.1 hv) (roomH_mark (hr1 _ hr) _)
        (hot_of hz hv) (List.mem_cons_self) (by rfl) gK FK.kp bK (pa_cons (pv 1) pa_nil)))))
    (pss_cons (ps_set (i := 3) sc_caught.nd rfl (Or.inl rfl) (pe_0 T (x := "PanelError") (by decide +kernel) (by rfl)))
    (pss_one (ps_ret (pe_tup (pa_cons (pv 2) (pa_cons (pe_call GK (hr.mono (by decide)) (by rfl) gK FK.kp bK .nil pass0 (pa_cons (pv 3) pa_nil))
      (pa_cons (pe_callB call_isEr (by rfl) (T.fr "isinstance" (by decide +kernel)) boot_isinstance (pa_cons (pv 3) (pa_cons (pe_bltn (v := .ty "ValueError") (by rfl) (T.fr "ValueError" (by decide +kernel)) boot_VE rfl) pa_nil))) pa_nil)))))))), ?_⟩)
  obtain ⟨v, rfl, k⟩ := h
  have hn : ("BadClash" : PySem.Str) ∈ names := by decide +kernel
  refine ⟨v, rfl, fun d nd => ⟨true, exm_pE T hn, fun _ a na => ?_, fun z => nomatch z⟩⟩
  refine ⟨_, rfl, "BadClash", d, _, rfl, hn, rfl, rfl, upd_same, fun l1 H1 s1 n1 t1 => ?_⟩
  rw [kin_clash.1] at t1
  have sA : Same H H1 := (same_new nd).trans s1
  refine fun e ne => ?_
  have ie : ∀ H', Same (upd H1 e (exo e (ga K pE) none)) H' → IsEr H' e (ga K pE) := fun H' s => .inl (s _ _ upd_same)
  have sB : Same H (upd H1 e (exo e (ga K pE) none)) := sA.trans (same_new ne)
  refine ⟨_, rfl, _, rfl, e, pE, rfl, pE_in, ie _ (Same.refl _), fun l2 H2 s2 n2 t2 => ?_⟩
  rw [kin_clash.2] at t2
  refine ⟨_, rfl, e, ga K pE, _, _, _, rfl, .ty _, excC_of T.cb (T.exc pE_in), ie _ s2, T.kitT pE_in (by decide +kernel), (by show 3 ≤ sizeLine; decide), fun t nt => ?_⟩
  have s4 : Same H2 (upd H2 t (.tup [.ref l1, .ref l2, .bl true])) := same_new nt
  have e2 : (V.bl (veT.contains (.type "ValueError"))) = .bl true := rfl
  rw [e2]
  exact k t l1 l2 _ ((sB.trans s2).trans s4) upd_same (s4 _ _ (s2 _ _ (same_new ne _ _ t1))) (s4 _ _ t2)
end
end K0

set_option Elab.async false
set_option linter.all false
set_option maxRecDepth 100000
set_option maxHeartbeats 4000000
namespace K0
open PySem PySem.Spec PyProof.Rows L2 EV He
abbrev NL : List PySem.Str := ["script", "state", "k", "at", "one", "two", "made", "kept", "other", "others"]
theorem boot_KeyError : bootBuiltins "KeyError" = some (.type "KeyError") := by decide +kernel
theorem boot_IndexError : bootBuiltins "IndexError" = some (.type "IndexError") := by decide +kernel
theorem boot_TypeError : bootBuiltins "TypeError" = some (.type "TypeError") := by decide +kernel
theorem kin_at : ∀ i : _root_.Fin 32, kin (kn.getD i.val "") = [(i.val : Int)] := by decide +kernel
theorem tg_same {H H' : Hp} {v : V} (h : Tg H v) (s : Same H H') : Tg H' v := by
  rcases h with h | ⟨t, z, e, h⟩ | ⟨l, b, z, e, h, hb, ne⟩ | ⟨dd, z, e, h⟩
  · exact .inl h
  · exact .inr (.inl ⟨t, z, e, s _ _ h⟩)
  · exact .inr (.inr (.inl ⟨l, b, z, e, s _ _ h, s _ _ hb, ne⟩))
  · exact .inr (.inr (.inr ⟨dd, z, e, s _ _ h⟩))
theorem th_tg {H H1 : Hp} {v : V} (h : Th H H1 v) : Tg H1 v := by
  rcases h with h | ⟨t, z, e, h, _⟩ | ⟨l, b, z, e, h, hb, _, _, ne⟩ | ⟨dd, z, e, h, _⟩
  · exact .inl h
  · exact .inr (.inl ⟨t, z, e, h⟩)
  · exact .inr (.inr (.inl ⟨l, b, z, e, h, hb, ne⟩))
  · exact .inr (.inr (.inr ⟨dd, z, e, h⟩))
/-- the next draw leaves it -/
theorem th_keep {H H1 H2 : Hp} {v : V} {p q : Addr} {n : Int} (d : Dw H p q n) (h : Th H H1 v) (k : Kp p q H1 H2) : Tg H2 v := by
  rcases h with h | ⟨t, z, e, h, n1⟩ | ⟨l, b, z, e, h, hb, n1, n2, ne⟩ | ⟨dd, z, e, h, n1⟩
  · exact .inl h
  · exact .inr (.inl ⟨t, z, e, k _ _ h (dw_ne d n1).1 (dw_ne d n1).2⟩)
  · exact .inr (.inr (.inl ⟨l, b, z, e, k _ _ h (dw_ne d n1).1 (dw_ne d n1).2, k _ _ hb (dw_ne d n2).1 (dw_ne d n2).2, ne⟩))
  · exact .inr (.inr (.inr ⟨dd, z, e, k _ _ h (dw_ne d n1).1 (dw_ne d n1).2⟩))
theorem dw_keep {H H' : Hp} {p q : Addr} {n : Int} (d : Dw H p q n) (s : Same H H') : Dw H' p q n := by
  obtain ⟨⟨cells, cur, mix, e1, e2, r⟩, n0⟩ := d
  exact ⟨⟨cells, cur, mix, s _ _ e1, s _ _ e2, r⟩, n0⟩
theorem seq_asg {te : TE} {rest : TS} {D : Ends} {σ : L2.St} {H : Hp} {i : Nat} (S : V → Hp → Prop) (h1 : ∀ Q : VK, (∀ v H', S v H' → Q v H') → te σ H Q) (h2 : ∀ v H', S v H' → rest D (σ.set i (some v)) H') : tSeq (tAsg te (gName i)) rest D σ H :=
  h1 _ fun v H' s => h2 v H' s
def spLaw (K : PySem.W.Frag) : Sp := fun vs H Q _ => ∃ (a : Addr) (ns : List Int), vs = [.ref a] ∧ SqL K H a (ns.map V.int) ∧ ns.length ≤ 63 ∧ ∀ H', Q (.bl true) H'
section
variable {P : Program} {w : World} {K : PySem.W.Frag} {mg : PySem.Str → Option Value} {base : Heap} {f : Addr} {fd : FuncData}
theorem kn_no : ∀ x ∈ kn, x ≠ "BadNet" ∧ x ≠ "BadRun" ∧ x ≠ "BadChain" := by decide +kernel
theorem kit_no (T : Tx K mg) {x y : PySem.Str} (hx : x ∈ names) (hy : y ∈ names) (n1 : x ≠ y) (n2 : y ≠ pE) : PySem.W.kitOne K (.ref (ga K x)) (.ref (ga K y)) = some false := by
  rw [T.kit hx hy, decide_eq_false n1, decide_eq_false n2]
  rfl
theorem no_other (T : Tx K mg) {x : PySem.Str} (hx : x ∈ names) (hk : x ∈ kn) : PySem.W.kitAny K (.ref (ga K x)) [.type "KeyError", .type "IndexError", .type "TypeError", .ref (ga K "BadNet"), .ref (ga K "BadRun"), .ref (ga K "BadChain")] = some false := by
  obtain ⟨n1, n2, n3⟩ := kn_no x hk
  exact kitAny_cons (T.kitT hx (t := "KeyError") (by decide +kernel)) (fun _ => kitAny_cons (T.kitT hx (t := "IndexError") (by decide +kernel)) (fun _ => kitAny_cons (T.kitT hx (t := "TypeError") (by decide +kernel)) (fun _ =>
    kitAny_cons (kit_no T hx (by decide +kernel) n1 (by decide +kernel)) (fun _ => kitAny_cons (kit_no T hx (by decide +kernel) n2 (by decide +kernel)) (fun _ => kitAny_cons (kit_no T hx (by decide +kernel) n3 (by decide +kernel)) (fun _ => kitAny_nil)
      fun z => by cases z) fun z => by cases z) fun z => by cases z) fun z => by cases z) fun z => by cases z) fun z => by cases z
theorem no_two (T : Tx K mg) {x : PySem.Str} (hx : x ∈ names) : PySem.W.kitAny K (.ref (ga K x)) [.type "KeyError", .type "TypeError"] = some false :=
  kitAny_cons (T.kitT hx (t := "KeyError") (by decide +kernel)) (fun _ => kitAny_cons (T.kitT hx (t := "TypeError") (by decide +kernel)) (fun _ => kitAny_nil) fun z => by cases z) fun z => by cases z
theorem sc_law : FnScope NL ["script"] (defScope s_law) := ⟨rfl, rfl, rfl, by decide +kernel, rfl, by decide +kernel, by decide +kernel⟩
theorem ok_law (F : FnP K "law" s_law f fd) (T : Tx K mg)
    {f_start : Addr} {d_start : FuncData} (F_start : FnP K "_law_start" s_law_start f_start d_start) (g_start : mg "_law_start" = some (.ref f_start)) (G_start : FnOk P w K mg base CX0 1 f_start d_start ["script"] (spStart K))
    {f_pick : Addr} {d_pick : FuncData} (F_pick : FnP K "_law_pick" s_law_pick f_pick d_pick) (g_pick : mg "_law_pick" = some (.ref f_pick)) (G_pick : FnOk P w K mg base CX0 1 f_pick d_pick ["state", "many"] spPick)
    {f_object : Addr} {d_object : FuncData} (F_object : FnP K "_law_object" s_law_object f_object d_object) (g_object : mg "_law_object" = some (.ref f_object)) (G_object : FnOk P w K mg base CX0 3 f_object d_object ["state"] spObject)
    {f_made_at : Addr} {d_made_at : FuncData} (F_made_at : FnP K "_law_made_at" s_law_made_at f_made_at d_made_at) (g_made_at : mg "_law_made_at" = some (.ref f_made_at)) (G_made_at : FnOk P w K mg base CX0 4 f_made_at d_made_at ["at", "x"] (spMade K 0 32))
    {f_kinds : Addr} {d_kinds : FuncData} (F_kinds : FnP K "_law_kinds" s_law_kinds f_kinds d_kinds) (g_kinds : mg "_law_kinds" = some (.ref f_kinds)) (G_kinds : FnOk P w K mg base CX0 2 f_kinds d_kinds ["e"] (spKi kin K))
    {f_very : Addr} {d_very : FuncData} (F_very : FnP K "_law_very" s_law_very f_very d_very) (g_very : mg "_law_very" = some (.ref f_very)) (G_very : FnOk P w K mg base CX0 4 f_very d_very ["found", "due"] spVery)
    {f_caught : Addr} {d_caught : FuncData} (F_caught : FnP K "_law_caught" s_law_caught f_caught d_caught) (g_caught : mg "_law_caught" = some (.ref f_caught)) (G_caught : FnOk P w K mg base CX0 4 f_caught d_caught ["x"] (spCaught K)) : FnOk P w K mg base CX0 5 f fd ["script"] (spLaw K) := by
  have b_start : Binds K d_start ["script"] [] := F_start.bindsN fun _ _ _ _ _ _ us hl => match us, hl with | [_], _ => rfl
  have b_pick : Binds K d_pick ["state", "many"] [] := F_pick.bindsN fun _ _ _ _ _ _ us hl => match us, hl with | [_, _], _ => rfl
  have b_object : Binds K d_object ["state"] [] := F_object.bindsN fun _ _ _ _ _ _ us hl => match us, hl with | [_], _ => rfl
  have b_made_at : Binds K d_made_at ["at", "x"] [] := F_made_at.bindsN fun _ _ _ _ _ _ us hl => match us, hl with | [_, _], _ => rfl
  have b_kinds : Binds K d_kinds ["e"] [] := F_kinds.bindsN fun _ _ _ _ _ _ us hl => match us, hl with | [_], _ => rfl
  have b_very : Binds K d_very ["found", "due"] [] := F_very.bindsN fun _ _ _ _ _ _ us hl => match us, hl with | [_, _], _ => rfl
  have b_caught : Binds K d_caught ["x"] [] := F_caught.bindsN fun _ _ _ _ _ _ us hl => match us, hl with | [_], _ => rfl
  refine F.ok sc_law (fun vs H Q E h => by obtain ⟨a, ns, rfl, _⟩ := h; rfl) (fun cdv A outer s H vs Q E hr h => ⟨_, PSs.nox
    (pss_cons (ps_set (i := 1) sc_law.nd rfl (Or.inl rfl) (pe_call G_start (hr.mono (by decide)) (by rfl) g_start F_start.kp b_start .nil pass0 (pa_cons (pv 0) pa_nil)))
    (pss_cons (ps_for PassesOwn.never rfl (pi_range1 (by rfl) (T.fr "range" (by decide +kernel)) (pa_cons pe_int pa_nil)) (pg_name (i := 2) sc_law.nd rfl (Or.inl rfl))
      (pss_cons (ps_set (i := 3) sc_law.nd rfl (Or.inl rfl) (pe_ifExp (pt_cmpR op_lt (pv 2) pe_int (nomark _)) (pe_op op_modN (pe_callTy call_int1 (by rfl) (T.fr "int" (by decide +kernel)) (by decide +kernel) (pa_cons (pe_op op_add (pv 2) (pe_call G_pick (hr.mono (by decide)) (by rfl) g_pick F_pick.kp b_pick .nil pass0 (pa_cons (pv 1) (pa_cons pe_int pa_nil)))) pa_nil)) pe_int) (pe_op op_sub (pv 2) pe_int)))
      (pss_cons (ps_par (i := 4) (j := 5) rfl sc_law.nd rfl rfl (by decide) rfl rfl (pa_cons (pe_call G_object (hr.mono (by decide)) (by rfl) g_object F_object.kp b_object .nil pass0 (pa_cons (pv 1) pa_nil)) (pa_cons (pe_call G_object (hr.mono (by decide)) (by rfl) g_object F_object.kp b_object .nil pass0 (pa_cons (pv 1) pa_nil)) pa_nil)) (by rfl))
      (pss_cons (ps_asg (pe_call G_made_at (hr.mono (by decide)) (by rfl) g_made_at F_made_at.kp b_made_at .nil pass0 (pa_cons (pv 3) (pa_cons (pv 4) pa_nil))) (pg_tup rfl (pgs_cons (pg_name (i := 6) sc_law.nd rfl (Or.inl rfl)) (pgs_cons (pg_name (i := 7) sc_law.nd rfl (Or.inl rfl)) pgs_nil))))
      (pss_cons (ps_asg (pe_call G_made_at (hr.mono (by decide)) (by rfl) g_made_at F_made_at.kp b_made_at .nil pass0 (pa_cons (pv 3) (pa_cons (pv 5) pa_nil))) (pg_tup rfl (pgs_cons (pg_name (i := 8) sc_law.nd rfl (Or.inl rfl)) (pgs_cons (pg_name (i := 9) sc_law.nd rfl (Or.inl rfl)) pgs_nil))))
      (pss_cons (ps_if (PW.pt (pw_or (pt_not (pt_val (pe_callB call_isEr (by rfl) (T.fr "isinstance" (by decide +kernel)) boot_isinstance (pa_cons (pv 6) (pa_cons (pe_glob (v := .ref (ga K "PanelError")) (by rfl) (T.gb (x := "PanelError") (by decide +kernel)) rfl) pa_nil))))) (pw_or (pt_not (pt_val (pe_callB call_isEr (by rfl) (T.fr "isinstance" (by decide +kernel)) boot_isinstance (pa_cons (pv 6) (pa_cons (pe_bltn (v := .ty "ValueError") (by rfl) (T.fr "ValueError" (by decide +kernel)) boot_VE rfl) pa_nil))))) (pw_or1 (pt_cmpR (op_neD hr.units) (pe_call G_kinds (hr.mono (by decide)) (by rfl) g_kinds F_kinds.kp b_kinds .nil pass0 (pa_cons (pv 6) pa_nil)) (pe_lst (pa_cons (pv 3) pa_nil)) (nomark _)))))) (pss_one (ps_ret pe_bl)) pss_nil)
      (pss_cons (ps_if (PW.pt (pw_or (pt_val (pe_callB call_isErT (by rfl) (T.fr "isinstance" (by decide +kernel)) boot_isinstance (pa_cons (pv 6) (pa_cons (pe_tup (pa_cons (pe_bltn (v := .ty "KeyError") (by rfl) (T.fr "KeyError" (by decide +kernel)) boot_KeyError rfl) (pa_cons (pe_bltn (v := .ty "IndexError") (by rfl) (T.fr "IndexError" (by decide +kernel)) boot_IndexError rfl) (pa_cons (pe_bltn (v := .ty "TypeError") (by rfl) (T.fr "TypeError" (by decide +kernel)) boot_TypeError rfl) (pa_cons (pe_glob (v := .ref (ga K "BadNet")) (by rfl) (T.gb (x := "BadNet") (by decide +kernel)) rfl) (pa_cons (pe_glob (v := .ref (ga K "BadRun")) (by rfl) (T.gb (x := "BadRun") (by decide +kernel)) rfl) (pa_cons (pe_glob (v := .ref (ga K "BadChain")) (by rfl) (T.gb (x := "BadChain") (by decide +kernel)) rfl) pa_nil))))))) pa_nil)))) (pw_or1 (pt_val (pe_callB call_isErT (by rfl) (T.fr "isinstance" (by decide +kernel)) boot_isinstance (pa_cons (pv 8) (pa_cons (pe_tup (pa_cons (pe_bltn (v := .ty "KeyError") (by rfl) (T.fr "KeyError" (by decide +kernel)) boot_KeyError rfl) (pa_cons (pe_bltn (v := .ty "TypeError") (by rfl) (T.fr "TypeError" (by decide +kernel)) boot_TypeError rfl) pa_nil))) pa_nil))))))) (pss_one (ps_ret pe_bl)) pss_nil)
      (pss_one (ps_if (PW.pt (pw_or (pt_not (pt_val (pe_call G_very (hr.mono (by decide)) (by rfl) g_very F_very.kp b_very .nil pass0 (pa_cons (pv 7) (pa_cons (pv 4) pa_nil))))) (pw_or1 (pt_not (pt_val (pe_call G_very (hr.mono (by decide)) (by rfl) g_very F_very.kp b_very .nil pass0 (pa_cons (pv 9) (pa_cons (pv 5) pa_nil)))))))) (pss_one (ps_ret pe_bl)) pss_nil)))))))))
    (pss_one (ps_ret (pe_cmpR (r := rEqD K) (op_eqD hr.units) (pe_call G_caught (hr.mono (by decide)) (by rfl) g_caught F_caught.kp b_caught .nil pass0 (pa_cons (pe_call G_object (hr.mono (by decide)) (by rfl) g_object F_object.kp b_object .nil pass0 (pa_cons (pv 1) pa_nil)) pa_nil)) (pe_tup (pa_cons (pe_lst (pa_cons pe_int pa_nil)) (pa_cons (pe_lst pa_nil) (pa_cons pe_bl pa_nil)))) (nomark _)))))), ?_⟩)
  obtain ⟨a, ns, rfl, hs, hl, k⟩ := h
  refine ⟨_, rfl, a, ns, rfl, hs, hl, fun p q H1 s1 d1 np nq => ?_⟩
  refine ⟨64, rfl, by decide, by decide, for_range (lo := 0) (n := 64) (fun i σ H => ∃ x2 x3 x4 x5 x6 x7 x8 x9 : Option V, σ = [some (.ref a), some (.ref p), x2, x3, x4, x5, x6, x7, x8, x9] ∧ ∃ m : Int, Dw H p q m ∧ m ≤ 100 * i)
    ⟨none, none, none, none, none, none, none, none, rfl, 0, d1, by omega⟩ ?_ ?_⟩
  · rintro u σ H2 hu ⟨x2, x3, x4, x5, x6, x7, x8, x9, rfl, m0, d2, hm0⟩
    refine seq_asg (fun v H' => ∃ i : Nat, i < 32 ∧ v = .int i ∧ ∃ m : Int, Dw H' p q m ∧ m ≤ m0 + 1) (fun Q2 kq => ?_) ?_
    · refine ⟨_, rfl, _, _, rfl, rfl, _, rfl, ite2 (fun c => ?_) (fun c => ?_)⟩
      · refine ⟨_, rfl, _, rfl, p, q, m0, _, rfl, d2, by omega, by decide, by decide, fun r H3 r0 r1 kp d3 => ⟨_, _, rfl, rfl, .inl ⟨_, rfl, _, _, rfl, rfl, (by show (32 : Int) ≠ 0; decide), ?_⟩⟩⟩
        have y0 := Int.fmod_nonneg_of_pos ((0 + (u : Int)) + r) (b := 32) (by decide)
        have y1 := Int.fmod_lt_of_pos ((0 + (u : Int)) + r) (b := 32) (by decide)
        exact kq _ _ ⟨(((0 + (u : Int)) + r).fmod 32).toNat, by omega, by rw [Int.toNat_of_nonneg y0], _, d3, by omega⟩
      · have c1 : ¬ ((0 + (u : Int)) < 32) := fun z => c (decide_eq_true z)
        refine ⟨_, rfl, _, _, rfl, rfl, kq _ _ ⟨u - 32, by omega, ?_, m0, d2, by omega⟩⟩
        have e : (0 + (u : Int)) - 32 = ((u - 32 : Nat) : Int) := by omega
        exact congrArg V.int e
    rintro v H3 ⟨i, hi, rfl, m, d, hm⟩
    have ex : kn[i]? = some (kn.getD i "") := by
      rw [List.getD_eq_getElem?_getD, List.getElem?_eq_getElem (by show i < 32; exact hi)]
      rfl
    generalize hxx : kn.getD i "" = x at ex
    have kx : kin x = [(i : Int)] := by
      rw [← hxx]
      exact kin_at ⟨i, hi⟩
    have hkn := List.mem_of_getElem? ex
    have hxn := kn_names x hkn
    have TE := excC_of T.cb (T.exc hxn)
    have kP : PySem.W.kitOne K (.ref (ga K x)) (.ref (ga K pE)) = some true := by
      rw [T.kit hxn pE_in]
      simp
    have kV : PySem.W.kitOne K (.ref (ga K x)) (.type "ValueError") = some true := by
      rw [T.kitT hxn (by decide +kernel)]
      rfl
    refine ⟨_, rfl, p, q, m, rfl, d, by omega, fun v1 H4 m4 k4 d4 hm4 th1 => ⟨_, rfl, p, q, m4, rfl, d4, by omega, fun v2 H5 m5 k5 d5 hm5 th2 => ⟨v1, v2, rfl, ?_⟩⟩⟩
    have tg1 : Tg H5 v1 := th_keep d th1 k5
    have tg2 : Tg H5 v2 := th_tg th2
    refine ⟨_, rfl, _, rfl, i, v1, x, rfl, Nat.zero_le _, hi, ex, fun ta e1 H6 s6 ht1 ie1 => ?_⟩
    refine ⟨ta, _, rfl, SqT.of ht1, rfl, _, _, rfl, _, _, rfl, rfl, ?_⟩
    refine ⟨_, rfl, _, rfl, i, v2, x, rfl, Nat.zero_le _, hi, ex, fun tb e2 H7 s7 ht2 ie2 => ?_⟩
    refine ⟨tb, _, rfl, SqT.of ht2, rfl, _, _, rfl, _, _, rfl, rfl, ?_⟩
    have ia := isEr_same ie1 s7
    refine ⟨_, rfl, e1, ga K x, _, _, _, rfl, .own _, TE, ia, kP, _, rfl, iteF ?_⟩
    refine ⟨_, rfl, e1, ga K x, _, _, _, rfl, .ty _, TE, ia, kV, _, rfl, iteF ?_⟩
    refine ⟨_, rfl, e1, x, rfl, hxn, ia, fun r H8 s8 nr hr8 => ⟨_, rfl, (by show 1 ≤ sizeLine; decide), fun l nl => ⟨.list [.int i], .list [.int i], .lst (SqL.of (same_new nl _ _ hr8)) (by rw [kx]; exact .cons (.int _) .nil), .lst (SqL.of upd_same) (.cons (.int _) .nil), rfl, rfl, _, rfl, ?_⟩⟩⟩
    rw [SeqAt.eqv_refl (.list [.int (i : Int)]) rfl]
    refine iteF ?_
    have s9 := s8.trans (same_new (o := .lst [.int (i : Int)]) nl)
    refine ⟨_, rfl, (by show 6 ≤ sizeLine; decide), fun t3 n3 => ⟨e1, ga K x, t3, _, _, _, rfl, upd_same, .cons (.ty _) (.cons (.ty _) (.cons (.ty _) (.cons (.own _) (.cons (.own _) (.cons (.own _) .nil))))), TE, isEr_same ia (s9.trans (same_new n3)), no_other T hxn hkn, _, rfl, iteF ?_⟩⟩
    have sb := s9.trans (same_new (o := .tup [.ty "KeyError", .ty "IndexError", .ty "TypeError", .ref (ga K "BadNet"), .ref (ga K "BadRun"), .ref (ga K "BadChain")]) n3)
    refine ⟨_, rfl, (by show 2 ≤ sizeLine; decide), fun t4 n4 => ⟨e2, ga K x, t4, _, _, _, rfl, upd_same, .cons (.ty _) (.cons (.ty _) .nil), TE, isEr_same ie2 (sb.trans (same_new n4)), no_two T hxn, _, rfl, iteF ?_⟩⟩
    have sc := sb.trans (same_new (o := .tup [.ty "KeyError", .ty "TypeError"]) n4)
    have sd := (s6.trans s7).trans sc
    refine ⟨_, rfl, _, rfl, v1, rfl, tg_same tg1 sd, fun Hb se => ⟨_, rfl, iteF ?_⟩⟩
    refine ⟨_, rfl, _, rfl, v2, rfl, tg_same tg2 (sd.trans se), fun Hc sf => ⟨_, rfl, iteF ?_⟩⟩
    exact ⟨_, _, _, _, _, _, _, _, rfl, m5, dw_keep d5 ((sd.trans se).trans sf), by omega⟩
  · rintro σ H2 ⟨x2, x3, x4, x5, x6, x7, x8, x9, rfl, m, d, hm⟩
    refine ⟨_, rfl, p, q, _, rfl, d, by omega, fun v H6 m6 k6 d6 hm6 th => ⟨v, rfl, fun t l1 l2 H7 s7 ht h1 h2 => ?_⟩⟩
    refine ⟨(by show 1 ≤ sizeLine; decide), fun a1 n1 => ⟨(by show 0 ≤ sizeLine; decide), fun a2 n2 => ⟨(by show 3 ≤ sizeLine; decide), fun t2 n3 => ?_⟩⟩⟩
    have z1 : Same H7 (upd H7 a1 (.lst [.int 14])) := same_new n1
    have z2 := same_new (o := .lst []) n2
    have z3 := same_new (o := .tup [.ref a1, .ref a2, .bl true]) n3
    refine ⟨.tuple [.list [.int 14], .list [], .bool true], .tuple [.list [.int 14], .list [], .bool true],
      .tup (SqT.of (z3 _ _ (z2 _ _ (z1 _ _ ht)))) (.cons (.lst (SqL.of (z3 _ _ (z2 _ _ (z1 _ _ h1)))) (.cons (.int _) .nil)) (.cons (.lst (SqL.of (z3 _ _ (z2 _ _ (z1 _ _ h2)))) .nil) (.cons (.bl _) .nil))),
      .tup (SqT.of upd_same) (.cons (.lst (SqL.of (z3 _ _ (z2 _ _ upd_same))) (.cons (.int _) .nil)) (.cons (.lst (SqL.of (z3 _ _ upd_same)) .nil) (.cons (.bl _) .nil))), rfl, rfl, ?_⟩
    rw [SeqAt.eqv_refl (.tuple [.list [.int 14], .list [], .bool true]) rfl]
    exact k _
end
end K0

set_option Elab.async false
set_option linter.all false
set_option maxRecDepth 100000
set_option maxHeartbeats 8000000
namespace K0
open PySem PySem.Spec PyProof.Rows L2 EV
section
variable {P : Program} {w : World} {K : PySem.W.Frag} {mg : PySem.Str → Option Value} {base h : Heap}
theorem tx (X : K.In h) (G : h.Ns mainGlobals mg) (sd : He.SaysD fa fn K) (e : exAll cls plain K = true) : Tx K mg := by
  have s0 := sd
  refine ⟨e, fun x hx => glo_of X G hx, ?_⟩
  exact (List.forall_mem_cons.mpr ⟨He.free_ok X G (s0.fact 15 (f := .free "abs") rfl), (List.forall_mem_cons.mpr ⟨He.free_ok X G (s0.fact 16 (f := .free "int") rfl), (List.forall_mem_cons.mpr ⟨He.free_ok X G (s0.fact 17 (f := .free "max") rfl), (List.forall_mem_cons.mpr ⟨He.free_ok X G (s0.fact 18 (f := .free "isinstance") rfl), (List.forall_mem_cons.mpr ⟨He.free_ok X G (s0.fact 19 (f := .free "range") rfl), (List.forall_mem_cons.mpr ⟨He.free_ok X G (s0.fact 20 (f := .free "list") rfl), (List.forall_mem_cons.mpr ⟨He.free_ok X G (s0.fact 21 (f := .free "tuple") rfl), (List.forall_mem_cons.mpr ⟨He.free_ok X G (s0.fact 22 (f := .free "dict") rfl), (List.forall_mem_cons.mpr ⟨He.free_ok X G (s0.fact 23 (f := .free "bool") rfl), (List.forall_mem_cons.mpr ⟨He.free_ok X G (s0.fact 24 (f := .free "str") rfl), (List.forall_mem_cons.mpr ⟨He.free_ok X G (s0.fact 25 (f := .free "len") rfl), (List.forall_mem_cons.mpr ⟨He.free_ok X G (s0.fact 26 (f := .free "all") rfl), (List.forall_mem_cons.mpr ⟨He.free_ok X G (s0.fact 27 (f := .free "zip") rfl), (List.forall_mem_cons.mpr ⟨He.free_ok X G (s0.fact 28 (f := .free "ValueError") rfl), (List.forall_mem_cons.mpr ⟨He.free_ok X G (s0.fact 29 (f := .free "KeyError") rfl), (List.forall_mem_cons.mpr ⟨He.free_ok X G (s0.fact 30 (f := .free "IndexError") rfl), (List.forall_mem_cons.mpr ⟨He.free_ok X G (s0.fact 31 (f := .free "TypeError") rfl), (fun _ z => nomatch z)⟩)⟩)⟩)⟩)⟩)⟩)⟩)⟩)⟩)⟩)⟩)⟩)⟩)⟩)⟩)⟩)⟩)
theorem g_law_start (X : K.In h) (G : h.Ns mainGlobals mg) (sd : He.SaysD fa fn K) : mg "_law_start" = some (.ref (He.ga K "_law_start")) := He.glo_ok X G (sd.fact 0 (f := .glo "_law_start") rfl)
theorem g_law_pick (X : K.In h) (G : h.Ns mainGlobals mg) (sd : He.SaysD fa fn K) : mg "_law_pick" = some (.ref (He.ga K "_law_pick")) := He.glo_ok X G (sd.fact 1 (f := .glo "_law_pick") rfl)
theorem g_law_between (X : K.In h) (G : h.Ns mainGlobals mg) (sd : He.SaysD fa fn K) : mg "_law_between" = some (.ref (He.ga K "_law_between")) := He.glo_ok X G (sd.fact 2 (f := .glo "_law_between") rfl)
theorem g_law_panel_kinds (X : K.In h) (G : h.Ns mainGlobals mg) (sd : He.SaysD fa fn K) : mg "_law_panel_kinds" = some (.ref (He.ga K "_law_panel_kinds")) := He.glo_ok X G (sd.fact 3 (f := .glo "_law_panel_kinds") rfl)
theorem g_law_machine_kinds (X : K.In h) (G : h.Ns mainGlobals mg) (sd : He.SaysD fa fn K) : mg "_law_machine_kinds" = some (.ref (He.ga K "_law_machine_kinds")) := He.glo_ok X G (sd.fact 4 (f := .glo "_law_machine_kinds") rfl)
theorem g_law_kinds (X : K.In h) (G : h.Ns mainGlobals mg) (sd : He.SaysD fa fn K) : mg "_law_kinds" = some (.ref (He.ga K "_law_kinds")) := He.glo_ok X G (sd.fact 5 (f := .glo "_law_kinds") rfl)
theorem g_law_cube_made (X : K.In h) (G : h.Ns mainGlobals mg) (sd : He.SaysD fa fn K) : mg "_law_cube_made" = some (.ref (He.ga K "_law_cube_made")) := He.glo_ok X G (sd.fact 6 (f := .glo "_law_cube_made") rfl)
theorem g_law_panel_made (X : K.In h) (G : h.Ns mainGlobals mg) (sd : He.SaysD fa fn K) : mg "_law_panel_made" = some (.ref (He.ga K "_law_panel_made")) := He.glo_ok X G (sd.fact 7 (f := .glo "_law_panel_made") rfl)
theorem g_law_machine_made (X : K.In h) (G : h.Ns mainGlobals mg) (sd : He.SaysD fa fn K) : mg "_law_machine_made" = some (.ref (He.ga K "_law_machine_made")) := He.glo_ok X G (sd.fact 8 (f := .glo "_law_machine_made") rfl)
theorem g_law_log_made (X : K.In h) (G : h.Ns mainGlobals mg) (sd : He.SaysD fa fn K) : mg "_law_log_made" = some (.ref (He.ga K "_law_log_made")) := He.glo_ok X G (sd.fact 9 (f := .glo "_law_log_made") rfl)
theorem g_law_made_at (X : K.In h) (G : h.Ns mainGlobals mg) (sd : He.SaysD fa fn K) : mg "_law_made_at" = some (.ref (He.ga K "_law_made_at")) := He.glo_ok X G (sd.fact 10 (f := .glo "_law_made_at") rfl)
theorem g_law_object (X : K.In h) (G : h.Ns mainGlobals mg) (sd : He.SaysD fa fn K) : mg "_law_object" = some (.ref (He.ga K "_law_object")) := He.glo_ok X G (sd.fact 11 (f := .glo "_law_object") rfl)
theorem g_law_very (X : K.In h) (G : h.Ns mainGlobals mg) (sd : He.SaysD fa fn K) : mg "_law_very" = some (.ref (He.ga K "_law_very")) := He.glo_ok X G (sd.fact 12 (f := .glo "_law_very") rfl)
theorem g_law_caught (X : K.In h) (G : h.Ns mainGlobals mg) (sd : He.SaysD fa fn K) : mg "_law_caught" = some (.ref (He.ga K "_law_caught")) := He.glo_ok X G (sd.fact 13 (f := .glo "_law_caught") rfl)
theorem g_law (X : K.In h) (G : h.Ns mainGlobals mg) (sd : He.SaysD fa fn K) : mg "law" = some (.ref (He.ga K "law")) := He.glo_ok X G (sd.fact 14 (f := .glo "law") rfl)
theorem fi_BadNet (sd : He.SaysD fa fn K) : ∃ fd, FnI K "BadNet" "BadNet.__init__" sI_BadNet fd := sd.def_ 0 (d := mkD ("BadNet", some "__init__") "__init__" "BadNet.__init__" (inClass (top 2) 0)) rfl
theorem fi_BadRun (sd : He.SaysD fa fn K) : ∃ fd, FnI K "BadRun" "BadRun.__init__" sI_BadRun fd := sd.def_ 1 (d := mkD ("BadRun", some "__init__") "__init__" "BadRun.__init__" (inClass (top 3) 0)) rfl
theorem fi_BadChain (sd : He.SaysD fa fn K) : ∃ fd, FnI K "BadChain" "BadChain.__init__" sI_BadChain fd := sd.def_ 2 (d := mkD ("BadChain", some "__init__") "__init__" "BadChain.__init__" (inClass (top 4) 0)) rfl
theorem fi_BadMany (sd : He.SaysD fa fn K) : ∃ fd, FnI K "BadMany" "BadMany.__init__" sI_BadMany fd := sd.def_ 3 (d := mkD ("BadMany", some "__init__") "__init__" "BadMany.__init__" (inClass (top 6) 0)) rfl
theorem fi_BadNumber (sd : He.SaysD fa fn K) : ∃ fd, FnI K "BadNumber" "BadNumber.__init__" sI_BadNumber fd := sd.def_ 4 (d := mkD ("BadNumber", some "__init__") "__init__" "BadNumber.__init__" (inClass (top 7) 0)) rfl
theorem fi_BadCell (sd : He.SaysD fa fn K) : ∃ fd, FnI K "BadCell" "BadCell.__init__" sI_BadCell fd := sd.def_ 5 (d := mkD ("BadCell", some "__init__") "__init__" "BadCell.__init__" (inClass (top 8) 0)) rfl
theorem fi_BadCube (sd : He.SaysD fa fn K) : ∃ fd, FnI K "BadCube" "BadCube.__init__" sI_BadCube fd := sd.def_ 6 (d := mkD ("BadCube", some "__init__") "__init__" "BadCube.__init__" (inClass (top 9) 0)) rfl
theorem fi_BadOther (sd : He.SaysD fa fn K) : ∃ fd, FnI K "BadOther" "BadOther.__init__" sI_BadOther fd := sd.def_ 7 (d := mkD ("BadOther", some "__init__") "__init__" "BadOther.__init__" (inClass (top 10) 0)) rfl
theorem fi_BadCubes (sd : He.SaysD fa fn K) : ∃ fd, FnI K "BadCubes" "BadCubes.__init__" sI_BadCubes fd := sd.def_ 8 (d := mkD ("BadCubes", some "__init__") "__init__" "BadCubes.__init__" (inClass (top 11) 0)) rfl
theorem fi_BadLevers (sd : He.SaysD fa fn K) : ∃ fd, FnI K "BadLevers" "BadLevers.__init__" sI_BadLevers fd := sd.def_ 9 (d := mkD ("BadLevers", some "__init__") "__init__" "BadLevers.__init__" (inClass (top 12) 0)) rfl
theorem fi_BadTable (sd : He.SaysD fa fn K) : ∃ fd, FnI K "BadTable" "BadTable.__init__" sI_BadTable fd := sd.def_ 10 (d := mkD ("BadTable", some "__init__") "__init__" "BadTable.__init__" (inClass (top 13) 0)) rfl
theorem fi_BadBursts (sd : He.SaysD fa fn K) : ∃ fd, FnI K "BadBursts" "BadBursts.__init__" sI_BadBursts fd := sd.def_ 11 (d := mkD ("BadBursts", some "__init__") "__init__" "BadBursts.__init__" (inClass (top 14) 0)) rfl
theorem fi_BadPanel (sd : He.SaysD fa fn K) : ∃ fd, FnI K "BadPanel" "BadPanel.__init__" sI_BadPanel fd := sd.def_ 12 (d := mkD ("BadPanel", some "__init__") "__init__" "BadPanel.__init__" (inClass (top 15) 0)) rfl
theorem fi_BadIndex (sd : He.SaysD fa fn K) : ∃ fd, FnI K "BadIndex" "BadIndex.__init__" sI_BadIndex fd := sd.def_ 13 (d := mkD ("BadIndex", some "__init__") "__init__" "BadIndex.__init__" (inClass (top 16) 0)) rfl
theorem fi_BadSign (sd : He.SaysD fa fn K) : ∃ fd, FnI K "BadSign" "BadSign.__init__" sI_BadSign fd := sd.def_ 14 (d := mkD ("BadSign", some "__init__") "__init__" "BadSign.__init__" (inClass (top 17) 0)) rfl
theorem fi_BadOn (sd : He.SaysD fa fn K) : ∃ fd, FnI K "BadOn" "BadOn.__init__" sI_BadOn fd := sd.def_ 15 (d := mkD ("BadOn", some "__init__") "__init__" "BadOn.__init__" (inClass (top 18) 0)) rfl
theorem fi_BadOff (sd : He.SaysD fa fn K) : ∃ fd, FnI K "BadOff" "BadOff.__init__" sI_BadOff fd := sd.def_ 16 (d := mkD ("BadOff", some "__init__") "__init__" "BadOff.__init__" (inClass (top 19) 0)) rfl
theorem fi_BadClash (sd : He.SaysD fa fn K) : ∃ fd, FnI K "BadClash" "BadClash.__init__" sI_BadClash fd := sd.def_ 17 (d := mkD ("BadClash", some "__init__") "__init__" "BadClash.__init__" (inClass (top 20) 0)) rfl
theorem fi_BadPanelText (sd : He.SaysD fa fn K) : ∃ fd, FnI K "BadPanelText" "BadPanelText.__init__" sI_BadPanelText fd := sd.def_ 18 (d := mkD ("BadPanelText", some "__init__") "__init__" "BadPanelText.__init__" (inClass (top 21) 0)) rfl
theorem fi_BadPath (sd : He.SaysD fa fn K) : ∃ fd, FnI K "BadPath" "BadPath.__init__" sI_BadPath fd := sd.def_ 19 (d := mkD ("BadPath", some "__init__") "__init__" "BadPath.__init__" (inClass (top 22) 0)) rfl
theorem fi_BadStep (sd : He.SaysD fa fn K) : ∃ fd, FnI K "BadStep" "BadStep.__init__" sI_BadStep fd := sd.def_ 20 (d := mkD ("BadStep", some "__init__") "__init__" "BadStep.__init__" (inClass (top 23) 0)) rfl
theorem fi_BadSteps (sd : He.SaysD fa fn K) : ∃ fd, FnI K "BadSteps" "BadSteps.__init__" sI_BadSteps fd := sd.def_ 21 (d := mkD ("BadSteps", some "__init__") "__init__" "BadSteps.__init__" (inClass (top 24) 0)) rfl
theorem fi_BadMachine (sd : He.SaysD fa fn K) : ∃ fd, FnI K "BadMachine" "BadMachine.__init__" sI_BadMachine fd := sd.def_ 22 (d := mkD ("BadMachine", some "__init__") "__init__" "BadMachine.__init__" (inClass (top 26) 0)) rfl
theorem fi_BadLamps (sd : He.SaysD fa fn K) : ∃ fd, FnI K "BadLamps" "BadLamps.__init__" sI_BadLamps fd := sd.def_ 23 (d := mkD ("BadLamps", some "__init__") "__init__" "BadLamps.__init__" (inClass (top 27) 0)) rfl
theorem fi_BadStates (sd : He.SaysD fa fn K) : ∃ fd, FnI K "BadStates" "BadStates.__init__" sI_BadStates fd := sd.def_ 24 (d := mkD ("BadStates", some "__init__") "__init__" "BadStates.__init__" (inClass (top 28) 0)) rfl
theorem fi_BadMoves (sd : He.SaysD fa fn K) : ∃ fd, FnI K "BadMoves" "BadMoves.__init__" sI_BadMoves fd := sd.def_ 25 (d := mkD ("BadMoves", some "__init__") "__init__" "BadMoves.__init__" (inClass (top 29) 0)) rfl
theorem fi_BadName (sd : He.SaysD fa fn K) : ∃ fd, FnI K "BadName" "BadName.__init__" sI_BadName fd := sd.def_ 26 (d := mkD ("BadName", some "__init__") "__init__" "BadName.__init__" (inClass (top 30) 0)) rfl
theorem fi_BadWalk (sd : He.SaysD fa fn K) : ∃ fd, FnI K "BadWalk" "BadWalk.__init__" sI_BadWalk fd := sd.def_ 27 (d := mkD ("BadWalk", some "__init__") "__init__" "BadWalk.__init__" (inClass (top 31) 0)) rfl
theorem fi_BadMachineText (sd : He.SaysD fa fn K) : ∃ fd, FnI K "BadMachineText" "BadMachineText.__init__" sI_BadMachineText fd := sd.def_ 28 (d := mkD ("BadMachineText", some "__init__") "__init__" "BadMachineText.__init__" (inClass (top 32) 0)) rfl
theorem fi_BadCode (sd : He.SaysD fa fn K) : ∃ fd, FnI K "BadCode" "BadCode.__init__" sI_BadCode fd := sd.def_ 29 (d := mkD ("BadCode", some "__init__") "__init__" "BadCode.__init__" (inClass (top 33) 0)) rfl
theorem fi_BadMove (sd : He.SaysD fa fn K) : ∃ fd, FnI K "BadMove" "BadMove.__init__" sI_BadMove fd := sd.def_ 30 (d := mkD ("BadMove", some "__init__") "__init__" "BadMove.__init__" (inClass (top 34) 0)) rfl
theorem fi_BadNets (sd : He.SaysD fa fn K) : ∃ fd, FnI K "BadNets" "BadNets.__init__" sI_BadNets fd := sd.def_ 31 (d := mkD ("BadNets", some "__init__") "__init__" "BadNets.__init__" (inClass (top 35) 0)) rfl
theorem fi_BadRuns (sd : He.SaysD fa fn K) : ∃ fd, FnI K "BadRuns" "BadRuns.__init__" sI_BadRuns fd := sd.def_ 32 (d := mkD ("BadRuns", some "__init__") "__init__" "BadRuns.__init__" (inClass (top 36) 0)) rfl
theorem fi_BadLog (sd : He.SaysD fa fn K) : ∃ fd, FnI K "BadLog" "BadLog.__init__" sI_BadLog fd := sd.def_ 33 (d := mkD ("BadLog", some "__init__") "__init__" "BadLog.__init__" (inClass (top 37) 0)) rfl
theorem fi_BadLogText (sd : He.SaysD fa fn K) : ∃ fd, FnI K "BadLogText" "BadLogText.__init__" sI_BadLogText fd := sd.def_ 34 (d := mkD ("BadLogText", some "__init__") "__init__" "BadLogText.__init__" (inClass (top 38) 0)) rfl
theorem f_law_start (sd : He.SaysD fa fn K) : ∃ fd, FnP K "_law_start" s_law_start (He.ga K "_law_start") fd := sd.def_ 35 (d := mkD ("_law_start", none) "_law_start" "_law_start" (top 40)) rfl
theorem f_law_pick (sd : He.SaysD fa fn K) : ∃ fd, FnP K "_law_pick" s_law_pick (He.ga K "_law_pick") fd := sd.def_ 36 (d := mkD ("_law_pick", none) "_law_pick" "_law_pick" (top 41)) rfl
theorem f_law_between (sd : He.SaysD fa fn K) : ∃ fd, FnP K "_law_between" s_law_between (He.ga K "_law_between") fd := sd.def_ 37 (d := mkD ("_law_between", none) "_law_between" "_law_between" (top 42)) rfl
theorem f_law_panel_kinds (sd : He.SaysD fa fn K) : ∃ fd, FnP K "_law_panel_kinds" s_law_panel_kinds (He.ga K "_law_panel_kinds") fd := sd.def_ 38 (d := mkD ("_law_panel_kinds", none) "_law_panel_kinds" "_law_panel_kinds" (top 43)) rfl
theorem f_law_machine_kinds (sd : He.SaysD fa fn K) : ∃ fd, FnP K "_law_machine_kinds" s_law_machine_kinds (He.ga K "_law_machine_kinds") fd := sd.def_ 39 (d := mkD ("_law_machine_kinds", none) "_law_machine_kinds" "_law_machine_kinds" (top 44)) rfl
theorem f_law_kinds (sd : He.SaysD fa fn K) : ∃ fd, FnP K "_law_kinds" s_law_kinds (He.ga K "_law_kinds") fd := sd.def_ 40 (d := mkD ("_law_kinds", none) "_law_kinds" "_law_kinds" (top 45)) rfl
theorem f_law_cube_made (sd : He.SaysD fa fn K) : ∃ fd, FnP K "_law_cube_made" s_law_cube_made (He.ga K "_law_cube_made") fd := sd.def_ 41 (d := mkD ("_law_cube_made", none) "_law_cube_made" "_law_cube_made" (top 46)) rfl
theorem f_law_panel_made (sd : He.SaysD fa fn K) : ∃ fd, FnP K "_law_panel_made" s_law_panel_made (He.ga K "_law_panel_made") fd := sd.def_ 42 (d := mkD ("_law_panel_made", none) "_law_panel_made" "_law_panel_made" (top 47)) rfl
theorem f_law_machine_made (sd : He.SaysD fa fn K) : ∃ fd, FnP K "_law_machine_made" s_law_machine_made (He.ga K "_law_machine_made") fd := sd.def_ 43 (d := mkD ("_law_machine_made", none) "_law_machine_made" "_law_machine_made" (top 48)) rfl
theorem f_law_log_made (sd : He.SaysD fa fn K) : ∃ fd, FnP K "_law_log_made" s_law_log_made (He.ga K "_law_log_made") fd := sd.def_ 44 (d := mkD ("_law_log_made", none) "_law_log_made" "_law_log_made" (top 49)) rfl
theorem f_law_made_at (sd : He.SaysD fa fn K) : ∃ fd, FnP K "_law_made_at" s_law_made_at (He.ga K "_law_made_at") fd := sd.def_ 45 (d := mkD ("_law_made_at", none) "_law_made_at" "_law_made_at" (top 50)) rfl
theorem f_law_object (sd : He.SaysD fa fn K) : ∃ fd, FnP K "_law_object" s_law_object (He.ga K "_law_object") fd := sd.def_ 46 (d := mkD ("_law_object", none) "_law_object" "_law_object" (top 51)) rfl
theorem f_law_very (sd : He.SaysD fa fn K) : ∃ fd, FnP K "_law_very" s_law_very (He.ga K "_law_very") fd := sd.def_ 47 (d := mkD ("_law_very", none) "_law_very" "_law_very" (top 52)) rfl
theorem f_law_caught (sd : He.SaysD fa fn K) : ∃ fd, FnP K "_law_caught" s_law_caught (He.ga K "_law_caught") fd := sd.def_ 48 (d := mkD ("_law_caught", none) "_law_caught" "_law_caught" (top 53)) rfl
theorem f_law (sd : He.SaysD fa fn K) : ∃ fd, FnP K "law" s_law (He.ga K "law") fd := sd.def_ 49 (d := mkD ("law", none) "law" "law" (top 54)) rfl
theorem inis (T : Tx K mg) (sd : He.SaysD fa fn K) : ∀ p ∈ cls, IniOk P w K mg base p := by
  have h0 : ∀ p ∈ cls0, IniOk P w K mg base p := by
    refine List.forall_mem_cons.mpr ⟨let ⟨_, F⟩ := fi_BadNet sd; ini_BadNet F T, ?_⟩
    refine List.forall_mem_cons.mpr ⟨let ⟨_, F⟩ := fi_BadRun sd; ini_BadRun F T, ?_⟩
    refine List.forall_mem_cons.mpr ⟨let ⟨_, F⟩ := fi_BadChain sd; ini_BadChain F T, ?_⟩
    refine List.forall_mem_cons.mpr ⟨let ⟨_, F⟩ := fi_BadMany sd; ini_BadMany F T, ?_⟩
    refine List.forall_mem_cons.mpr ⟨let ⟨_, F⟩ := fi_BadNumber sd; ini_BadNumber F T, ?_⟩
    refine List.forall_mem_cons.mpr ⟨let ⟨_, F⟩ := fi_BadCell sd; ini_BadCell F T, ?_⟩
    refine List.forall_mem_cons.mpr ⟨let ⟨_, F⟩ := fi_BadCube sd; ini_BadCube F T, ?_⟩
    refine List.forall_mem_cons.mpr ⟨let ⟨_, F⟩ := fi_BadOther sd; ini_BadOther F T, ?_⟩
    refine List.forall_mem_cons.mpr ⟨let ⟨_, F⟩ := fi_BadCubes sd; ini_BadCubes F T, ?_⟩
    refine List.forall_mem_cons.mpr ⟨let ⟨_, F⟩ := fi_BadLevers sd; ini_BadLevers F T, ?_⟩
    refine List.forall_mem_cons.mpr ⟨let ⟨_, F⟩ := fi_BadTable sd; ini_BadTable F T, ?_⟩
    refine List.forall_mem_cons.mpr ⟨let ⟨_, F⟩ := fi_BadBursts sd; ini_BadBursts F T, ?_⟩
    refine List.forall_mem_cons.mpr ⟨let ⟨_, F⟩ := fi_BadPanel sd; ini_BadPanel F T, ?_⟩
    refine List.forall_mem_cons.mpr ⟨let ⟨_, F⟩ := fi_BadIndex sd; ini_BadIndex F T, ?_⟩
    refine List.forall_mem_cons.mpr ⟨let ⟨_, F⟩ := fi_BadSign sd; ini_BadSign F T, ?_⟩
    refine List.forall_mem_cons.mpr ⟨let ⟨_, F⟩ := fi_BadOn sd; ini_BadOn F T, ?_⟩
    refine List.forall_mem_cons.mpr ⟨let ⟨_, F⟩ := fi_BadOff sd; ini_BadOff F T, ?_⟩
    refine List.forall_mem_cons.mpr ⟨let ⟨_, F⟩ := fi_BadClash sd; ini_BadClash F T, ?_⟩
    refine List.forall_mem_cons.mpr ⟨let ⟨_, F⟩ := fi_BadPanelText sd; ini_BadPanelText F T, ?_⟩
    refine List.forall_mem_cons.mpr ⟨let ⟨_, F⟩ := fi_BadPath sd; ini_BadPath F T, ?_⟩
    exact fun _ z => nomatch z
  have h1 : ∀ p ∈ cls1, IniOk P w K mg base p := by
    refine List.forall_mem_cons.mpr ⟨let ⟨_, F⟩ := fi_BadStep sd; ini_BadStep F T, ?_⟩
    refine List.forall_mem_cons.mpr ⟨let ⟨_, F⟩ := fi_BadSteps sd; ini_BadSteps F T, ?_⟩
    refine List.forall_mem_cons.mpr ⟨let ⟨_, F⟩ := fi_BadMachine sd; ini_BadMachine F T, ?_⟩
    refine List.forall_mem_cons.mpr ⟨let ⟨_, F⟩ := fi_BadLamps sd; ini_BadLamps F T, ?_⟩
    refine List.forall_mem_cons.mpr ⟨let ⟨_, F⟩ := fi_BadStates sd; ini_BadStates F T, ?_⟩
    refine List.forall_mem_cons.mpr ⟨let ⟨_, F⟩ := fi_BadMoves sd; ini_BadMoves F T, ?_⟩
    refine List.forall_mem_cons.mpr ⟨let ⟨_, F⟩ := fi_BadName sd; ini_BadName F T, ?_⟩
    refine List.forall_mem_cons.mpr ⟨let ⟨_, F⟩ := fi_BadWalk sd; ini_BadWalk F T, ?_⟩
    refine List.forall_mem_cons.mpr ⟨let ⟨_, F⟩ := fi_BadMachineText sd; ini_BadMachineText F T, ?_⟩
    refine List.forall_mem_cons.mpr ⟨let ⟨_, F⟩ := fi_BadCode sd; ini_BadCode F T, ?_⟩
    refine List.forall_mem_cons.mpr ⟨let ⟨_, F⟩ := fi_BadMove sd; ini_BadMove F T, ?_⟩
    refine List.forall_mem_cons.mpr ⟨let ⟨_, F⟩ := fi_BadNets sd; ini_BadNets F T, ?_⟩
    refine List.forall_mem_cons.mpr ⟨let ⟨_, F⟩ := fi_BadRuns sd; ini_BadRuns F T, ?_⟩
    refine List.forall_mem_cons.mpr ⟨let ⟨_, F⟩ := fi_BadLog sd; ini_BadLog F T, ?_⟩
    refine List.forall_mem_cons.mpr ⟨let ⟨_, F⟩ := fi_BadLogText sd; ini_BadLogText F T, ?_⟩
    exact fun _ z => nomatch z
  exact (List.forall_mem_append.mpr ⟨h0, h1⟩)
theorem all_ok {fa : Addr} (X : K.In h) (G : h.Ns mainGlobals mg) (sd : He.SaysD K0.fa fn K) (e : exAll cls plain K = true) (hfa : mg "law" = some (.ref fa)) :
    ∃ fd : FuncData, (∀ (s : Shared) (u : Value), BindsTo s fd ⟨[u], []⟩ [("script", u)]) ∧ ∀ base : Heap, FnOk P w K mg base CX0 5 fa fd ["script"] (spLaw K) := by
  have T := tx X G sd e
  have ez := hfa.symm.trans (g_law X G sd)
  cases ez
  obtain ⟨fd, F⟩ := f_law sd
  obtain ⟨d1, F1⟩ := f_law_start sd
  obtain ⟨d2, F2⟩ := f_law_pick sd
  obtain ⟨d3, F3⟩ := f_law_object sd
  obtain ⟨d4, F4⟩ := f_law_made_at sd
  obtain ⟨d5, F5⟩ := f_law_kinds sd
  obtain ⟨d6, F6⟩ := f_law_panel_kinds sd
  obtain ⟨d7, F7⟩ := f_law_machine_kinds sd
  obtain ⟨d8, F8⟩ := f_law_very sd
  obtain ⟨d9, F9⟩ := f_law_between sd
  obtain ⟨da, Fa⟩ := f_law_cube_made sd
  obtain ⟨db, Fb⟩ := f_law_panel_made sd
  obtain ⟨dc, Fc⟩ := f_law_machine_made sd
  obtain ⟨dd, Fd⟩ := f_law_log_made sd
  obtain ⟨de, Fe⟩ := f_law_caught sd
  refine ⟨fd, fun s u => F.bindsA (ps := ["script"]) (fun _ _ _ _ _ _ us hl => match us, hl with | [_], _ => rfl) s [u] rfl, fun base => ?_⟩
  have hI : ∀ p ∈ cls, IniOk P w K mg base p := inis T sd
  have GP : FnOk P w K mg base CX0 1 _ d2 ["state", "many"] spPick := ok_pick F2 (T.fr "abs" (by decide +kernel)) (T.fr "int" (by decide +kernel))
  exact ok_law F T F1 (g_law_start X G sd) (ok_start F1 T) F2 (g_law_pick X G sd) GP F3 (g_law_object X G sd) (ok_object F3 T F2 (g_law_pick X G sd) GP F9 (g_law_between X G sd))
    F4 (g_law_made_at X G sd) (ok_made_at F4 T Fa (g_law_cube_made X G sd) Fb (g_law_panel_made X G sd) Fc (g_law_machine_made X G sd) Fd (g_law_log_made X G sd) hI)
    F5 (g_law_kinds X G sd) (ok_kinds F5 T F6 (g_law_panel_kinds X G sd) F7 (g_law_machine_kinds X G sd)) F8 (g_law_very X G sd) (ok_very F8 T)
    Fe (g_law_caught X G sd) (ok_caught Fe T hI F5 (g_law_kinds X G sd) F6 (g_law_panel_kinds X G sd) F7 (g_law_machine_kinds X G sd))
end
end K0
open PySem PySem.W PySem.Calls PyProof.Rows
set_option maxHeartbeats 0 in
theorem PySem.Challenge.cw_steadynets_k00_errors_made_holds : PySem.Challenge.rw_steadynets_k00_errors_made.Holds := by
  w_on; o_law
  refine HandSHeadRun.head_any (r := OpenLaw.row PySem.Challenge.rw_steadynets_k00_errors_made) (q := view (OpenLaw.row PySem.Challenge.rw_steadynets_k00_errors_made).prog [54]) (H := K0.hk) (ob := K0.ob) (M := 40000) (loose := K0.loose) (d := HandSHeadRun.topDef (OpenLaw.row PySem.Challenge.rw_steadynets_k00_errors_made).prog 54) (kwd := []) K0.ob_eq
    (by kernel_rfl) (fun s => by kernel_rfl) K0.run (by kernel_rfl) (by kernel_rfl) (by kernel_rfl) (by rfl) (by first | assumption | decide +kernel) (by decide +kernel) ⟨rfl, rfl, rfl, rfl, rfl, by decide +kernel⟩ ?hw ?hc
  case hw => w_witness2
  case hc =>
    refine L2.walk_ofE (l := PySem.Challenge.rw_steadynets_k00_errors_made) (n := 63) (k := 5) (x := "script") (CX := L2.CX0) rfl (by decide) (by kernel_rfl) ⟨rfl, by decide, by decide⟩ ?F (fun _ _ _ _ z => z)
    intro w mg fa h Y G hmg0
    obtain ⟨K, KX, sd, e⟩ := Y
    have hmg : mg ("law" : PySem.Str) = some (.ref fa) := by
      have e : (HandSHeadRun.topDef (OpenLaw.row PySem.Challenge.rw_steadynets_k00_errors_made).prog 54).name = ("law" : PySem.Str) := by kernel_rfl
      rw [← e]
      exact hmg0
    obtain ⟨fd, hb, hF⟩ := K0.all_ok (P := (PySem.Challenge.rw_steadynets_k00_errors_made).prog) (w := w) KX G sd e hmg
    exact ⟨K, fd, K0.spLaw K, KX, hb, fun H a ns hl _ hS => ⟨a, ns, rfl, hS, hl, fun _ => rfl⟩, fun base _ _ => hF base⟩
#print axioms PySem.Challenge.cw_steadynets_k00_errors_made_holds
