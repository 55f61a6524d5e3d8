import PyProof.Rows.All
import Wide.All
import OpenK.AllK
import Wide.FinOn
import KE.KExcInit
import KE.KExcIs
import HandS.ExcInit
import HandS.MakeKwOnly
import HandS.IsInst
import HandS.ExcOwn
import HandS.Nested
import HandS.EndTab
import HandS.HeadHook4
import HandS.Words
import HandS.HeadNt
import HandS.ForMost
import HandS.Wide
import HandS.WordsExc
import HandS.Head0
import HandS.Head1
import HandS.Head2
import HandS.HeadWalk
import KE.KStateDown
import PySem.Challenge.RW_nearswap_k08_exception_classes

set_option Elab.async false
set_option linter.all false
set_option maxRecDepth 100000
set_option maxHeartbeats 4000000
/-! ### an own exception class called: new, then its own __init__; keywords too -/
namespace PySem
namespace GX
open PySem.W PySem.Calls PyProof.Rows
section
variable {prog : Program} {w : World} {A : Around} {E : Value → Shared → Prop} {R : Result → Shared → Prop} {h : Heap} {g : Array GenState} {d : Drawn} {t : Nat} {os : OsState}
variable {nm q : Str} {C N : Addr} {bs bm tl : List Value} {hdct : Bool} {sn : List Str} {sub : List Value} {ab : Bool} {col : Option Bool} {dd : Option Addr} {k0 k1 k2 k3 k5 : Option Value} {B newId initId : String}
abbrev cobj (nm q : Str) (C N : Addr) (bs bm : List Value) (hdct : Bool) (sn : List Str) (sub : List Value) (ab : Bool) (col : Option Bool) (dd : Option Addr) (k0 k1 k2 k3 k5 : Option Value) (newId : String) : Obj := excClassObj nm q C N bs bm hdct sn sub ab col dd k0 k1 k2 k3 k5 newId
/-- the heap with the object that is being made -/
abbrev grown (C : Addr) (rest : List Value) (h : Heap) : Heap := (h.push (W.kdv_tup rest)).push (HandSPX.excO C h.objs.size)
theorem may_new (F : ExcBaseFacts B newId initId tl) (hT : ∀ X : String, bm.contains (.type X) = tl.contains (.type X)) {rest : List Value} {kw : List (Str × Value)} {Q : Unit → Shared → Prop}
    (hC : h.get? C = some (cobj nm q C N bs bm hdct sn sub ab col dd k0 k1 k2 k3 k5 newId)) (k : Q () ⟨h, g, d, t, os⟩) : wpAny (model prog w) A (checkBuiltinCall newId ⟨.ref C :: rest, kw⟩) Q E ⟨h, g, d, t, os⟩ := by
  have isB : (Value.ref C :: bm).contains (.type B) = true := by rw [List.contains_cons, hT, F.hasB, Bool.or_true]
  have ns := F.noStar
  simp only [checkBuiltinCall, F.newKind, F.newSplit, F.newRow]
  repeat (first | refine wpAny_loadPart_at hC ?_ | (refine wpAny_isSubtype_exc hC ?_; rw [isB]) | refine wpAny_staticBase_exc hC ?_ | refine wpAny_madeBy_exc hC ?_ | simp only [bne_self_eq_false, Bool.false_eq_true, if_false] | wp_step)
  exact k
theorem does_new (F : ExcBaseFacts B newId initId tl) (hT : ∀ X : String, bm.contains (.type X) = tl.contains (.type X)) {rest : List Value} {kw : List (Str × Value)} (hC : h.get? C = some (cobj nm q C N bs bm hdct sn sub ab col dd k0 k1 k2 k3 k5 newId)) (hz : rest.length ≤ sizeLine)
    (k : R (.ok (.ret (.ref (h.objs.size + 1)))) ⟨grown C rest h, g, d, t, os⟩) : codeAny (model prog w) A (.builtin newId ⟨.ref C :: rest, kw⟩) R ⟨h, g, d, t, os⟩ := by
  have fin := F.ends
  have isB : (Value.ref C :: bm).contains (.type B) = true := by rw [List.contains_cons, hT, F.hasB, Bool.or_true]
  have isA : (Value.ref C :: bm).contains (.type "AttributeError") = false := by rw [List.contains_cons, hT, F.noAttr]; rfl
  have isN : (Value.ref C :: bm).contains (.type "NameError") = false := by rw [List.contains_cons, hT, F.noName]; rfl
  refine codeAny_builtinAt F.entry ?_
  unfold Builtin.«BaseException.__new__»
  refine wpAt_bind ?_
  show wpAt _ _ _ (stack >>= _) _ _ _
  refine wpAt_bind (wpAt_stack fun _ _ => wpAt_of_wpAny ?_)
  wp_walk
  refine wpAt_of_wpAny ?_
  rw [F.owner]
  repeat (first | with_reducible refine wpAny_madeHere_exc F.canon hC ?_ | with_reducible refine wpAny_loadPart_at hC ?_ | (with_reducible refine wpAny_isSubtype_exc hC ?_; first | rw [isB] | rw [isA] | rw [isN]) | wp_step)
  show R _ _
  rw [Heap.size_push]
  exact k
theorem does_class (F : ExcBaseFacts B newId initId tl) (hT : ∀ X : String, bm.contains (.type X) = tl.contains (.type X)) {rest : List Value} {kw : List (Str × Value)} {fI : Addr} {Q : Fin → Shared → Prop} (hC : h.get? C = some (cobj nm q C N bs bm hdct sn sub ab col dd k0 k1 k2 k3 k5 newId))
    (hi : W.Looks (model prog w) h (typeLookup (.ref C) "__init__") (some (.ref fI))) (hb : ∀ self, W.Looks (model prog w) h (bindSpecial (.ref fI) self) (.ref fI, [self])) (hz : rest.length ≤ sizeLine)
    (k : codeAny (model prog w) A (.call (.ref fI) ⟨.ref (h.objs.size + 1) :: rest, kw⟩) (fun r s' => match r with | .ok (.ret v) => v = .none ∧ Q (.done (.ret (.ref (h.objs.size + 1)))) s' | .ok _ => False | .error e => E e s') ⟨grown C rest h, g, d, t, os⟩) :
    wpAny (model prog w) A (Builtin.«type.__call__» ⟨.ref C :: rest, kw⟩) Q E ⟨h, g, d, t, os⟩ := by
  have kk : ∀ b o, h.get? b = some o → (grown C rest h).get? b = some o := fun b o e => Heap.get?_push_of_some _ (Heap.get?_push_of_some _ e)
  have hC2 := kk _ _ hC
  have he : (grown C rest h).get? (h.objs.size + 1) = some (HandSPX.excO C h.objs.size) := by heap_get
  have isC : (Value.ref C :: bm).contains (.ref C) = true := by simp
  repeat (first | with_reducible refine wpAny_loadPart_at hC ?_ | with_reducible refine wpAny_madeBy_exc hC ?_ | wp_step)
  refine codeAny_call_builtin_code (Code.quiet_builtin _ F.quiet) (may_new F hT hC (does_new F hT hC hz ?_))
  show wpAny _ _ _ _ _ _
  unfold isInstance
  repeat (first | with_reducible refine wpAny_loadPart_at he ?_ | (with_reducible refine wpAny_isSubtype_exc hC2 ?_; rw [isC]) | wp_step)
  show wpAny _ _ (typeLookup (.ref C) _) _ _ _
  refine (hi.keeps kk).at (wpAny_holding (wpAny_bind (((hb (.ref (h.objs.size + 1))).keeps kk).at (wpAny_bind (wpAny_call (codeAny_mono k fun r s' z => ?_))))))
  rcases r with e | (v | _ | _ | _) <;> first | exact z | exact z.elim | skip
  obtain ⟨rfl, z⟩ := z
  first
    | exact wpAny_pure (wpAny_pure z)
    | (wp_walk; exact z)
theorem call_class (F : ExcBaseFacts B newId initId tl) (hT : ∀ X : String, bm.contains (.type X) = tl.contains (.type X)) {rest : List Value} {kw : List (Str × Value)} {fI : Addr} (hC : h.get? C = some (cobj nm q C N bs bm hdct sn sub ab col dd k0 k1 k2 k3 k5 newId))
    (hi : W.Looks (model prog w) h (typeLookup (.ref C) "__init__") (some (.ref fI))) (hb : ∀ self, W.Looks (model prog w) h (bindSpecial (.ref fI) self) (.ref fI, [self])) (hz : rest.length ≤ sizeLine)
    (k : codeAny (model prog w) (A.under (.builtin "type.__call__" ⟨.ref C :: rest, kw⟩)) (.call (.ref fI) ⟨.ref (h.objs.size + 1) :: rest, kw⟩) (W.InitBack (h.objs.size + 1) R) ⟨grown C rest h, g, d, t, os⟩) :
    codeAny (model prog w) A (.call (.ref C) ⟨rest, kw⟩) R ⟨h, g, d, t, os⟩ := by
  have l1 := tc_lookup
  have l2 := tc_bind (.ref C)
  have ty : (⟨h, g, d, t, os⟩ : Shared).TypeIs (.ref C) "type" := ⟨_, hC, rfl⟩
  refine codeAny_of_tree ?_
  show wpAny _ _ (callAny (.ref C) _) _ _ _
  repeat (any_goals (first | assumption | with_reducible refine wpAny_loadPart_at hC ?_ | wp_step))
  refine ⟨rfl, ?_⟩
  refine codeAny_call_builtin_at (Code.quiet_builtin _ (by decide +kernel)) entry_typeCall (wpAny_check_type_call_sub hC (does_class F hT hC hi hb hz ?_))
  refine codeAny_mono k fun r s' z => ?_
  rcases r with e | (v | _ | _ | _) <;> exact z
end
end GX
end PySem

set_option Elab.async false
set_option linter.all false
set_option maxRecDepth 100000
set_option maxHeartbeats 4000000
/-! ### exceptions of own classes as values: made, stored into, read, asked for their class -/
namespace GX
open PySem PySem.Spec PyProof.Rows L2
/-- the built-in base -/
structure Xb (B newId initId : String) (tl : List Value) : Prop where
  eb : ExcBaseFacts B newId initId tl
  st : StoreFacts B tl "object.__setattr__" "object"
theorem xb_value : Xb "ValueError" "ValueError.__new__" "ValueError.__init__" [.type "ValueError", .type "Exception", .type "BaseException", .type "object"] := ⟨F.excBase_ValueError, F.store_ValueError⟩
theorem xb_lookup : Xb "LookupError" "LookupError.__new__" "LookupError.__init__" [.type "LookupError", .type "Exception", .type "BaseException", .type "object"] := ⟨F.excBase_LookupError, F.store_LookupError⟩
/-- what the written part says of the own class at C -/
structure Xc (K : PySem.W.Frag) (newId : String) (tl : List Value) (C fI : Addr) : Prop where
  init : PySem.W.excInitIn K C tl newId = true
  over : PySem.W.excOver K C tl = true
  sa : PySem.W.findIn K (.ref C) "__setattr__" = some (some (.builtin "object.__setattr__"))
  hd : PySem.W.hasDictIn K C = true
  ga : PySem.W.findIn K (.ref C) "__getattribute__" = some (some (.builtin "BaseException.__getattribute__"))
  gg : PySem.W.findIn K (.ref C) "__getattr__" = some none
  exC : PySem.W.subIn K (.ref C) (.type "BaseException") = some true
  kC : PySem.W.keepIn K (.ref C) = true
  iC : PySem.W.findIn K (.ref C) "__init__" = some (some (.ref fI))
  tI : PySem.W.typeIn K (.ref fI) = some (.type "function")
  ic : (PySem.W.clsIn K C).isSome = true
  ha : PySem.W.findIn K (.ref C) "__class__" = some (some (.builtin "object.__class__"))
  hm : PySem.W.mroIn K C (.type "object") = some true
structure Xk (K : PySem.W.Frag) : Prop where
  hn : PySem.W.specialIn K (.builtin "object.__class__") "__get__" = some (some (.builtin "getset_descriptor.__get__"))
  ht : PySem.W.takesIn K (.builtin "object.__class__") = some true
section
variable {B newId initId : String} {tl : List Value} {X : Cx} {pins : List (Addr × Obj)} {σ : L2.St} {H : Hp} {s : Shared} {a C fI dx : Addr} {f : Str} {y : V} {u : Value} {fs : List (Str × V)} {E : Value → Shared → Prop} {A : Around}
theorem upd_swap {H : Hp} {a b : Addr} {o u v : HO} (h : a ≠ b) : upd (upd (upd H a o) b u) a v = upd (upd H a v) b u := by
  funext c
  by_cases h1 : c = a
  · subst h1; rw [upd_same, upd_ne h, upd_same]
  · by_cases h2 : c = b
    · subst h2; rw [upd_ne h1, upd_same, upd_same]
    · rw [upd_ne h1, upd_ne h2, upd_ne h1, upd_ne h2, upd_ne h1]
/-- the first field -/
theorem xset_new {Q : Unit → Shared → Prop} (b : Xb B newId initId tl) (T : Xc X.K newId tl C fI) (I : Inv X pins σ H s) (e : H a = some (exo a C none)) (ht : PySem.W.takerIn X.K C f = some none) (ry : RelV y u)
    (h : ∀ dx s', H dx = none → dx ≠ a → Inv X pins σ (upd (upd H dx (exd dx [(f, y)])) a (exo a C (some dx))) s' → Q () s') : wpAny (model X.prog X.w) A (setAttr (.ref a) f u) Q E s := by
  obtain ⟨t1, ho⟩ := exo_at I.hok e
  obtain ⟨hp, g, d, t, os⟩ := s
  have lt : a < hp.objs.size := Heap.lt_size ho
  refine PySem.W.set_plain (od := none) I.kIn ⟨ho, rfl, rfl, trivial⟩ T.sa ?_
  refine PySem.W.osa_openX (s := ⟨hp, g, d, t + 1, os⟩) (od := none) b.st I.kIn ⟨ho, rfl, rfl, trivial⟩ T.over ht fun _ => ?_
  obtain ⟨cd, hc, hd⟩ := PySem.W.any_some T.hd
  refine wpAny_bind (wpAny_pure (wpAny_bind (PySem.W.instanceDict_exc ho (PySem.W.looks_clsIn I.kIn hc) hd ?_)))
  have hne : hp.objs.size ≠ a := Nat.ne_of_gt lt
  have hdn : H hp.objs.size = none := I.hok.fresh (Nat.le_refl _)
  -- the dict is laid
  have g1 : (hp.push (PySem.W.dictOf [] 0)).Ns1 hp.objs.size (fun _ => none) := Heap.Ns1.of_empty ⟨_, #[], _, Heap.get?_push_at rfl rfl, rfl, fun e he => absurd he (by simp), fun _ => rfl⟩
  have I1 := I.laid (t' := t + 1) (a := hp.objs.size) (o := exd hp.objs.size []) (h' := hp.push (PySem.W.dictOf [] 0)) (fun b o q => Heap.get?_push_of_some _ q) (Nat.le_refl _) (exd_ok g1 fun _ => True.intro)
  -- the object points at it
  have ho1 : (hp.push (PySem.W.dictOf [] 0)).get? a = some { cls := .ref C, dict := none, data := .fields #[.ref t1, .none, .none, .none, .bool false, .none] } := Heap.get?_push_of_some _ ho
  have e1 : upd H hp.objs.size (exd hp.objs.size []) a = some (exo a C none) := by rw [upd_ne hne.symm]; exact e
  have I2 := I1.write (t' := t + 1) (x := a) (e := a) (o := exo a C (some hp.objs.size)) (h' := (hp.push (PySem.W.dictOf [] 0)).update a fun o => { o with dict := some hp.objs.size }) (by rw [e1]; exact True.intro) (.inl rfl)
    (fun b o hb q => (Heap.get?_update_ne _ _ _ _ hb).trans q) ⟨_, Heap.get?_update_self _ ho1 rfl⟩ (exo_ok (Heap.get?_update_self _ ho1 rfl))
  have gd : ((hp.push (PySem.W.dictOf [] 0)).update a fun o => { o with dict := some hp.objs.size }).get? hp.objs.size = some (PySem.W.dictOf [] 0) := (Heap.get?_update_ne _ _ _ _ hne).trans (Heap.get?_push_at rfl rfl)
  refine HandSPX.store_in_new (hp := (hp.push (PySem.W.dictOf [] 0)).update a fun o => { o with dict := some hp.objs.size }) ⟨_, #[], _, gd, rfl, fun e he => absurd he (by simp), fun _ => rfl⟩ fun h' tk' hn' hs => ?_
  have eod : ∃ o, h'.get? hp.objs.size = some o := by obtain ⟨o, _, _, q, _⟩ := hn'; exact ⟨o, q⟩
  have ed : upd (upd H hp.objs.size (exd hp.objs.size [])) a (exo a C (some hp.objs.size)) hp.objs.size = some (exd hp.objs.size []) := by rw [upd_ne hne, upd_same]
  have I3 := I2.write (t' := tk') (x := hp.objs.size) (e := hp.objs.size) (o := exd hp.objs.size [(f, y)]) (h' := h') (by rw [ed]; exact True.intro) (.inl rfl) (fun b o hb q => (hs.2 b hb).trans q) eod
    (exd_ok hn' (relO_put (fs := []) ry fun _ => True.intro))
  rw [upd_swap hne] at I3
  exact h hp.objs.size _ hdn hne I3
/-- a further field -/
theorem xset_old {Q : Unit → Shared → Prop} (b : Xb B newId initId tl) (T : Xc X.K newId tl C fI) (I : Inv X pins σ H s) (e : H a = some (exo a C (some dx))) (ed : H dx = some (exd dx fs)) (hl : fs.length ≤ 900) (ht : PySem.W.takerIn X.K C f = some none) (ry : RelV y u)
    (h : ∀ s', Inv X pins σ (upd H dx (exd dx ((f, y) :: fs))) s' → Q () s') : wpAny (model X.prog X.w) A (setAttr (.ref a) f u) Q E s := by
  obtain ⟨t1, ho⟩ := exo_at I.hok e
  obtain ⟨mA, ns, rel⟩ := exd_at I.hok ed
  obtain ⟨hp, g, d, t, os⟩ := s
  obtain ⟨od, _, _, eod, _, _⟩ := ns.count (within_of rel)
  refine PySem.W.set_plain (od := some od) I.kIn ⟨ho, rfl, rfl, eod⟩ T.sa ?_
  refine PySem.W.osa_openX (s := ⟨hp, g, d, t + 1, os⟩) (od := some od) b.st I.kIn ⟨ho, rfl, rfl, eod⟩ T.over ht fun _ => ?_
  obtain ⟨cd, hc, hd⟩ := PySem.W.any_some T.hd
  refine wpAny_bind (wpAny_pure (wpAny_bind (wpAny_bind (wpAny_loadPart ho (wpAny_bind ((PySem.W.looks_clsIn I.kIn hc).at ?_))))))
  rw [hd]
  refine wpAny_pure (a := some dx) ?_
  refine OEX.store_in_old ns (within_of rel) (by rw [List.length_map]; omega) fun h' tk' hn' hs => ?_
  have eod2 : ∃ o, h'.get? dx = some o := by obtain ⟨o, _, _, q, _⟩ := hn'; exact ⟨o, q⟩
  exact h _ (I.write (t' := tk') (x := dx) (e := dx) (o := exd dx ((f, y) :: fs)) (h' := h') (by rw [ed]; exact True.intro) (.inl rfl) (fun b o hb q => (hs.2 b hb).trans q) eod2 (exd_ok hn' (relO_put ry rel)))
/-- the base's __init__: nothing of it is told -/
theorem xinit {us : List Value} {Q : Value → Shared → Prop} (b : Xb B newId initId tl) (T : Xc X.K newId tl C fI) (I : Inv X pins σ H s) (e : H a = some (exo a C none)) (hl : us.length ≤ sizeLine) (h : ∀ s', Inv X pins σ H s' → Q .none s') :
    wpAny (model X.prog X.w) A (call (.builtin initId) (.ref a :: us)) Q E s := by
  obtain ⟨t1, ho⟩ := exo_at I.hok e
  obtain ⟨nm, N, qn, bs, bm, hdct, sn, sub, ab, col, dd, k0, k1, k2, k3, k5, hC, hT⟩ := PySem.W.excInit_of I.kIn T.init
  obtain ⟨hp, g, d, t, os⟩ := s
  refine wpAny_call (HandSPX.init_base b.eb hT hC ho hl fun h' t2 k hx => ?_)
  have J := I.write (t' := t) (x := a) (e := a) (o := exo a C none) (h' := h') (by rw [e]; exact True.intro) (.inl rfl) k ⟨_, hx⟩ (exo_ok hx)
  have q : upd H a (exo a C none) = H := by
    funext c
    by_cases hc : c = a
    · rw [hc, upd_same, e]
    · exact upd_ne hc
  rw [q] at J
  exact h _ J
/-- C(..): the object laid, its own __init__ called -/
theorem xmake {us ws : List Value} {vs zs : List V} {Q : VK} {n k : Nat} {CX : CXT} {fd : FuncData} {ps ks : List Str} {sp : Sp} {Ex : XK} {gg : List Value → List Value → List Value} {gV : List V → List V → List V} (b : Xb B newId initId tl) (T : Xc X.K newId tl C fI)
    (F1 : FnOk X.prog X.w X.K X.mg X.base CX k fI fd ps sp) (hr : Room (k + 1) X.A) (hb : KBn X.K fd ps (n + 1) ks gg gV) (hx : Passes CX X Ex) (I : Inv X pins σ H s) (r : Vals vs us) (rz : Vals zs ws) (l1 : vs.length = n) (l2 : zs.length = ks.length) (hl : n ≤ 1000)
    (h : ∀ a, H a = none → sp (gV (.ref a :: vs) zs) (upd H a (exo a C none)) (fun v H2 => v = .non ∧ Q (.ref a) H2) Ex) : wpAny (model X.prog X.w) X.A (call (.ref C) us (ks.zip ws)) (EP X pins σ Q) X.xe s := by
  obtain ⟨nm, N, qn, bs, bm, hdct, sn, sub, ab, col, dd, k0, k1, k2, k3, k5, hC, hT⟩ := PySem.W.excInit_of I.kIn T.init
  obtain ⟨hp, g, dr, tk, os⟩ := s
  have sz : hp.objs.size ≤ hp.objs.size + 1 := Nat.le_succ _
  have he : (PySem.GX.grown C us hp).get? (hp.objs.size + 1) = some (HandSPX.excO C hp.objs.size) := by heap_get
  have J := I.laid (t' := tk) (a := hp.objs.size + 1) (o := exo (hp.objs.size + 1) C none) (h' := PySem.GX.grown C us hp) (fun b o q => Heap.get?_push_of_some _ (Heap.get?_push_of_some _ q)) sz (exo_ok he)
  have r1 : Vals (V.ref (hp.objs.size + 1) :: vs) (Value.ref (hp.objs.size + 1) :: us) := .cons rfl r
  have q := h (hp.objs.size + 1) (I.hok.fresh sz)
  have lu : us.length ≤ sizeLine := by rw [← r.length, l1, sizeLine_eq]; omega
  refine wpAny_call (PySem.GX.call_class b.eb hT hC (PySem.W.looks_findIn I.kIn T.iC) (fun self => PySem.W.bind_fn I.kIn self T.tI) lu
    (codeAny_mono (F1.run _ X.stack _ _ ⟨Value.ref (hp.objs.size + 1) :: us, ks.zip ws⟩ (gg (Value.ref (hp.objs.size + 1) :: us) ws) _ _ Ex (hr.make C us (ks.zip ws)) (J.env0.make C us (ks.zip ws))
      (hb.to _ (Value.ref (hp.objs.size + 1) :: us) ws J.kIn (by rw [List.length_cons, ← r.length, l1]) (rz.length.symm.trans l2)) (hb.rel r1 rz) q) fun r s' z => ?_))
  cases r with
  | error e => exact hx pins σ _ _ e s' J z
  | ok fl =>
    cases fl with
    | ret u =>
      obtain ⟨v, H', J', rv, ev, z⟩ := J.after z
      subst ev
      exact ⟨rv, V.ref (hp.objs.size + 1), H', J', rfl, z⟩
    | next => exact False.elim z
    | brk => exact False.elim z
    | cont => exact False.elim z
end
end GX

set_option Elab.async false
set_option linter.all false
set_option maxRecDepth 100000
set_option maxHeartbeats 4000000
/-! ### the rules -/
namespace GX
open PySem PySem.Spec PyProof.Rows L2
def Xcc (K : PySem.W.Frag) (C fI : Addr) : Prop := ∃ B newId initId tl, Xb B newId initId tl ∧ Xc K newId tl C fI
/-- an exception of the class at C with the fields fs -/
def XO (H : Hp) (a C : Addr) (fs : List (Str × V)) : Prop := ∃ dx, H a = some (exo a C (some dx)) ∧ H dx = some (exd dx fs)
def tXset (K : PySem.W.Frag) (f : Str) (to te : TE) : TS := fun D σ H => te σ H fun y H1 => to σ H1 fun x H2 => ∃ a C fI : Addr, x = .ref a ∧ Xcc K C fI ∧ PySem.W.takerIn K C f = some none ∧
  ((H2 a = some (exo a C none) ∧ ∀ dx, H2 dx = none → dx ≠ a → D.nx σ (upd (upd H2 dx (exd dx [(f, y)])) a (exo a C (some dx)))) ∨
    ∃ (dx : Addr) (fs : List (Str × V)), H2 a = some (exo a C (some dx)) ∧ H2 dx = some (exd dx fs) ∧ fs.length ≤ 900 ∧ D.nx σ (upd H2 dx (exd dx ((f, y) :: fs))))
def tXinit (K : PySem.W.Frag) (newId : String) (tl : List Value) (ta : TA) : TE := fun σ H Q => ta σ H fun vs H1 => ∃ (a C fI : Addr) (ws : List V), vs = .ref a :: ws ∧ ws.length ≤ 1000 ∧ Xc K newId tl C fI ∧ H1 a = some (exo a C none) ∧ Q .non H1
def tXmk (C : Addr) (n m : Nat) (sp : Sp) (gV : List V → List V → List V) (Ex : XK) (t tk : TA) : TE := fun σ H Q => t σ H fun vs H1 => tk σ H1 fun zs H2 => vs.length = n ∧ zs.length = m ∧ ∀ a, H2 a = none → sp (gV (.ref a :: vs) zs) (upd H2 a (exo a C none)) (fun v H3 => v = .non ∧ Q (.ref a) H3) Ex
def tXat (K : PySem.W.Frag) (f : Str) (te : TE) : TE := fun σ H Q => te σ H fun x H1 => ∃ (a C fI : Addr) (fs : List (Str × V)) (v : V), x = .ref a ∧ Xcc K C fI ∧ PySem.W.findIn K (.ref C) f = some none ∧ XO H1 a C fs ∧ fs.lookup f = some v ∧ Q v H1
def rIsX (K : PySem.W.Frag) : List V → Hp → VK → Prop := fun xs H Q => ∃ (a C fI : Addr) (fs : List (Str × V)) (c : V) (u : Value) (b : Bool), xs = [.ref a, c] ∧ ClsV c u ∧ Xcc K C fI ∧ XO H a C fs ∧ PySem.W.kitOne K (.ref C) u = some b ∧ Q (.bl b) H
section
variable {B newId initId : String} {tl : List Value} {X : Cx} {f x : Str} {o e : Expr} {es : List Expr} {to te : TE} {ta t tk : TA} {p p' p1 p2 pos : Pos} {kws : List Keyword} {C CN fI : Addr} {n k : Nat} {CX : CXT} {fd : FuncData} {ps ks : List Str} {sp : Sp} {Ex : XK} {gg : List Value → List Value → List Value} {gV : List V → List V → List V}
theorem ps_xset (ho : PE X o to) (he : PE X e te) (hs : swapsWith e (some (.Attribute o f p')) pos.line X.env = pure false := by rfl) : PS X (.Assign [.Attribute o f p'] e pos) (tXset X.K f to te) := by
  refine ⟨fun pins s σ H D I h => plainObj_wpAny_Assign_Attribute (thn (he.run pins s σ H _ I h) fun v s1 ⟨y, H1, I1, r1, q1⟩ => thn (ho.run pins s1 σ H1 _ I1 q1) fun u s2 ⟨z, H2, I2, r2, a, C, fI, ez, ⟨B, nI, iI, tl, b, T⟩, ht, q⟩ => ?_) hs⟩
  subst ez
  obtain rfl : u = Value.ref a := r2
  rcases q with ⟨ea, q⟩ | ⟨dx, fs, ea, ed, hl, q⟩
  · exact xset_new b T I2 ea ht r1 fun dx s' n ne J => ⟨σ, _, J, q dx n ne⟩
  · exact xset_old b T I2 ea ed hl ht r1 fun s' J => ⟨σ, _, J, q⟩
theorem xinit_fin (b : Xb B newId initId tl) (ha : PA X (e :: es) ta) {pins : List (Addr × Obj)} {s : Shared} {σ : L2.St} {H : Hp} {Q : VK} (I : Inv X pins σ H s) (h : tXinit X.K newId tl ta σ H Q)
    (he : starEach (e :: es) X.env = (false, eval e X.env) :: starEach es X.env) (hpl : (backTo pos (starEach es X.env)).any (·.1) = false) :
    wpAny (model X.prog X.w) X.A (callWith pos (Value.builtin initId) [] (backTo pos (starEach (e :: es) X.env)) []) (EP X pins σ Q) X.xe s := by
  refine PyProof.Rows.callWith_method1 (thn (ha.run pos pins _ σ H _ I h) fun us s1 ⟨vs, H1, I1, r1, a, C, fI, ws, ev, hl, T, ea, q⟩ => ?_) he hpl
  subst ev
  cases r1 with
  | @cons _ u0 _ ur ra rw' =>
    obtain rfl : u0 = Value.ref a := ra
    have hlen : ur.length ≤ sizeLine := by
      rw [← Paired.length rw', sizeLine_eq]
      omega
    exact xinit b T I1 ea hlen fun s' J => ⟨.non, H1, J, rfl, q⟩
/-- N.__init__(self, ..), N an own class that takes it from the built-in base -/
theorem pe_xinitC {pl : Sem Bool} (b : Xb B newId initId tl) (hg : Gl X x) (hm : X.mg x = some (.ref CN)) (hG : PySem.W.specialIn X.K (.ref CN) "__getattribute__" = some (some (.builtin "type.__getattribute__"))) (hR : PySem.W.readsIn X.K CN (.type "type") = true)
    (hF : PySem.W.findCls X.K (.ref CN) (.type "type") "__init__" = some (.val (.builtin initId))) (hh : PySem.W.handedIn (.builtin initId) = true) (ha : PA X (e :: es) ta)
    (hc : eval (.Call (.Attribute (.Name x p1) "__init__" p2) (e :: es) [] pos) X.env = (do
      let ov ← eval (.Name x p1) X.env
      standAt p2.atName
      let (f, first) ← holding [ov] (getMethod ov "__init__" pl)
      callWith pos f first (backTo pos (starEach (e :: es) X.env)) (backToKw pos (keywordEach [] X.env))) := by rfl)
    (hdb : (x == ("__debug__" : Str)) = false := by decide) (he : starEach (e :: es) X.env = (false, eval e X.env) :: starEach es X.env := by rfl) (hpl : (backTo pos (starEach es X.env)).any (·.1) = false := by rfl) :
    PE X (.Call (.Attribute (.Name x p1) "__init__" p2) (e :: es) [] pos) (tXinit X.K newId tl ta) :=
  ⟨fun pins s σ H Q I h => PySem.W.methodCall_KW (ld_glob I hg hm (PySem.W.method_cls I.kIn hG (PySem.W.cls_value I.kIn hR hF hh (xinit_fin b ha (I.tok _) h he hpl))) hdb) hc⟩
/-- B.__init__(self, ..), B the built-in base itself -/
theorem pe_xinitB {pl : Sem Bool} (b : Xb B newId initId tl) (hg : Gl X x) (hm : X.mg x = none) (hb : bootBuiltins x = some (.type B)) (ty : typeOf (.type B) = pure (.type "type")) (st : Manifest.isStub B = false)
    (hF : PySem.W.findCls X.K (.type B) (.type "type") "__init__" = some (.val (.builtin initId))) (hh : PySem.W.handedIn (.builtin initId) = true) (ha : PA X (e :: es) ta)
    (hc : eval (.Call (.Attribute (.Name x p1) "__init__" p2) (e :: es) [] pos) X.env = (do
      let ov ← eval (.Name x p1) X.env
      standAt p2.atName
      let (f, first) ← holding [ov] (getMethod ov "__init__" pl)
      callWith pos f first (backTo pos (starEach (e :: es) X.env)) (backToKw pos (keywordEach [] X.env))) := by rfl)
    (h1 : (x == ("__debug__" : Str)) = false := by decide) (h2 : x ≠ ("__name__" : Str) := by decide) (he : starEach (e :: es) X.env = (false, eval e X.env) :: starEach es X.env := by rfl) (hpl : (backTo pos (starEach es X.env)).any (·.1) = false := by rfl) :
    PE X (.Call (.Attribute (.Name x p1) "__init__" p2) (e :: es) [] pos) (tXinit X.K newId tl ta) := by
  refine ⟨fun pins s σ H Q I h => PySem.W.methodCall_KW (ld_blt I hg hm hb ?_ (by first | assumption | decide) (by first | assumption | decide)) hc⟩
  obtain ⟨m, fr⟩ := I.fr
  exact PySem.W.method_type fr I.ok.mod.kin ty st hF hh (xinit_fin b ha (I.tok _) h he hpl)
theorem pe_xmk (b : Xb B newId initId tl) (T : Xc X.K newId tl C fI) (F1 : FnOk X.prog X.w X.K X.mg X.base CX k fI fd ps sp) (hr : Room (k + 1) X.A) (hb : KBn X.K fd ps (n + 1) [] gg gV) (hx : Passes CX X Ex) (hg : Gl X x) (hm : X.mg x = some (.ref C)) (ha : PA X (e :: es) t) (hn : n ≤ 1000)
    (hdb : (x == ("__debug__" : Str)) = false := by decide) (he : starEach (e :: es) X.env = (false, eval e X.env) :: starEach es X.env := by rfl) (hpl : (backTo pos (starEach es X.env)).any (·.1) = false := by rfl) :
    PE X (.Call (.Name x p) (e :: es) [] pos) (tXmk C n 0 sp gV Ex t tNil) := by
  refine ⟨fun pins s σ H Q I h => wpAny_Call_Name_kw (ld_glob I hg hm ?_ hdb)⟩
  refine PySem.W.callWith_K (h₀ := X.base) I.ok.mod.kin T.kC (thn (ha.run pos pins s σ H _ I h) fun us s1 ⟨vs, H1, I1, r1, q1⟩ => ⟨I1.kIn, ?_⟩) he hpl
  obtain ⟨l1, _, q⟩ := q1
  exact xmake (ks := []) (ws := []) (zs := []) b T F1 hr hb hx I1 r1 .nil l1 rfl hn q
theorem pe_xmkK (b : Xb B newId initId tl) (T : Xc X.K newId tl C fI) (F1 : FnOk X.prog X.w X.K X.mg X.base CX k fI fd ps sp) (hr : Room (k + 1) X.A) (hb : KBn X.K fd ps 1 ks gg gV) (hx : Passes CX X Ex) (hg : Gl X x) (hm : X.mg x = some (.ref C)) (hkw : PK X kws tk)
    (hall : (backToKw pos (keywordEach kws X.env)).all (·.1.isSome) = true := by rfl) (hks : (backToKw pos (keywordEach kws X.env)).filterMap (·.1) = ks := by rfl) (hdb : (x == ("__debug__" : Str)) = false := by decide)
    (hpl : ((backTo pos (starEach [] X.env)).any (·.1) || (backToKw pos (keywordEach kws X.env)).any (·.1.isNone)) = false := by rfl) : PE X (.Call (.Name x p) [] kws pos) (tXmk C 0 ks.length sp gV Ex tNil tk) := by
  refine ⟨fun pins s σ H Q I h => wpAny_Call_Name_kw (ld_glob I hg hm (PySem.W.callWith_KW0 (h₀ := X.base) I.ok.mod.kin T.kC hall ?_ hpl) hdb)⟩
  refine thn (hkw.run pos pins s σ H _ I h) fun ws s2 ⟨zs, H2, I2, rz, l1, l2, q2⟩ => ⟨I2.kIn, ?_⟩
  rw [hks]
  exact xmake (us := []) (vs := []) b T F1 hr hb hx I2 .nil rz rfl l2 (by decide) q2
theorem XO.inst {pins : List (Addr × Obj)} {σ : L2.St} {H : Hp} {s : Shared} {a : Addr} {fs : List (Str × V)} (I : Inv X pins σ H s) (e : XO H a C fs) : ∃ (ox od : Obj) (mA : Str → Option Value), PySem.W.InstAt s.heap a ox C (some od) ∧ (∀ y, PySem.W.lookIn y od = some (mA y)) ∧ ∀ y, RelO (fs.lookup y) (mA y) := by
  obtain ⟨dx, ea, ed⟩ := e
  obtain ⟨t1, ho⟩ := exo_at I.hok ea
  obtain ⟨mA, ns, rel⟩ := exd_at I.hok ed
  obtain ⟨od, hd, hl⟩ := lookIn_ns ns
  exact ⟨_, od, mA, ⟨ho, rfl, rfl, hd⟩, hl, rel⟩
theorem pe_xat (he : PE X e te) (hb : attributeBase e f X.env (eval e X.env) = eval e X.env := by rfl) : PE X (.Attribute e f pos) (tXat X.K f te) := by
  refine ⟨fun pins s σ H Q I h => attr_of hb (thn (he.run pins s σ H _ I h) fun u s1 ⟨z, H1, I1, rz, a, C, fI, fs, v, ez, ⟨B, nI, iI, tl, b, T⟩, hno, xo, l, q⟩ => ?_)⟩
  subst ez
  obtain rfl : u = Value.ref a := rz
  obtain ⟨ox, od, mA, J, hl, rel⟩ := XO.inst I1 xo
  obtain ⟨w', hw, rw'⟩ := RelO.some_of (v := v) (o := mA f) (by rw [← l]; exact rel f)
  exact HandSPX.exc_get I1.kIn J T.ga T.gg T.exC (PySem.W.findObj_own T.hd hno rfl (by rw [hl, hw])) (handed_of rw') ⟨v, H1, I1.tok _, rw', q⟩
theorem call_isX (kk : Xk X.K) : CallR X (.builtin "isinstance") (rIsX X.K) := by
  intro pins s σ H xs us Q I r h
  obtain ⟨a, C, fI, fs, c, u, b, rfl, hc, ⟨B, nI, iI, tl, _, T⟩, xo, e, q⟩ := h
  obtain ⟨u1, u2, rfl, r1, r2⟩ := vals2 r
  have e2 := hc.eq r2
  subst e2
  cases (show u1 = Value.ref a from r1)
  obtain ⟨ox, od, mA, J, _, _⟩ := XO.inst I xo
  exact PySem.W.kia_one (PySem.W.kitx_exc T.ic T.ga T.gg T.exC T.ha kk.hn kk.ht T.hm) I.kIn J e (fun z => nomatch z) fun tk => ⟨.bl b, H, I.tok tk, rfl, q⟩
end
end GX

set_option Elab.async false
set_option linter.all false
set_option maxRecDepth 100000
set_option maxHeartbeats 4000000
/-! ### lambdas without captured names, kept as values -/
namespace GX
open PySem PySem.Spec PyProof.Rows L2 LamX NdefX
/-- the words of a lambda -/
structure LW where
  q : Str
  params : Arguments
  body : Expr
  scope : Scope
abbrev LW.fd (W : LW) (c' : Addr) (pm ctv : Value) : FuncData := PySem.W.kla_fn "<lambda>" W.q W.params W.body W.scope [] pm (.ref c') ctv
abbrev LW.nf (W : LW) (c' : Addr) : NF := ⟨"<lambda>", W.q, W.params, [], W.scope, [], c'⟩
/-- at f: the lambda W, its code object at c' -/
def LmO (f c' : Addr) (W : LW) : HO := .ext fun h => ∃ (od : Option Addr) (sl : Array (Option Value)) (pm ctv : Value), h.get? f = some (⟨.type "function", od, .func (W.fd c' pm ctv), sl⟩ : Obj)
theorem lmO_at {P : Program} {w : World} {H : Hp} {h : Heap} {f c' : Addr} {W : LW} (hok : HOk P w H h) (e : H f = some (LmO f c' W)) : ∃ (od : Option Addr) (sl : Array (Option Value)) (pm ctv : Value), h.get? f = some (⟨.type "function", od, .func (W.fd c' pm ctv), sl⟩ : Obj) := by
  obtain ⟨z, _, _⟩ := hok f _ e
  exact z
/-- what a lambda is: the function object, its code object -/
def IsLm (H : Hp) (f : Addr) (W : LW) : Prop := ∃ c', H f = some (LmO f c' W) ∧ H c' = some (CodeO c' W.q)
section
variable {X : Cx} {pins : List (Addr × Obj)} {σ : L2.St} {H : Hp} {s : Shared}
theorem inv_lm {W : LW} {c' : Addr} {t' : Nat} {pm ctv : Value} (I : Inv X pins σ H s) : Inv X pins σ (upd H s.heap.objs.size (LmO s.heap.objs.size c' W)) { s with heap := s.heap.push { cls := .type "function", data := .func (W.fd c' pm ctv) }, toks := t' } := by
  refine I.laid (a := s.heap.objs.size) (fun b u e => Heap.get?_push_of_some _ e) (Nat.le_refl _) ?_
  have e : (s.heap.push ({ cls := .type "function", data := .func (W.fd c' pm ctv) } : Obj)).get? s.heap.objs.size = some ({ cls := .type "function", data := .func (W.fd c' pm ctv) } : Obj) := Heap.get?_push_size _ rfl
  exact ⟨⟨none, #[], pm, ctv, e⟩, ⟨_, e⟩, fun h1 h2 ⟨od, sl, p, t, z⟩ st => ⟨od, sl, p, t, st _ z⟩⟩
theorem lam_mk {T : List NTab} {nm : Nat → Nat → Str} {c P : Addr} {params : Arguments} {body : Expr} {scope : Scope} {pos : Pos} {E : Value → Shared → Prop} {Q : Value → Shared → Prop} (I : Inv X pins σ H s) (TB : TabB X.base X.mg c P) (hcode : X.env.code = .ref c)
    (hm : (P, nm) ∈ T) (hn : nm pos.line pos.col = X.env.qual ++ "<lambda>") (hu : ∀ p ∈ T, p.1 = P → p.2 = nm) (hT : TabsN T H) (hdef : defaultsOf params X.env = ([], [])) (hfree : ∀ y ∈ scope.names, y.2 ≠ .free) (hcl : cloFrom X.env.cells scope.names [] = [])
    (k : ∀ (f : Addr) (H1 : Hp) (s' : Shared), Inv X pins σ H1 s' → ExtN H H1 → (∀ b, H1 b = none → H b = none) → TabsN T H1 → H f = none → IsLm H1 f ⟨X.env.qual ++ "<lambda>", params, body, scope⟩ → Q (.ref f) s') : wpAny (model X.prog X.w) X.A (eval (.Lambda params body scope pos) X.env) Q E s := by
  obtain ⟨ps, tP, tr, ta⟩ := (show TabN H P nm from hT _ hm)
  have bB : s.heap.BuiltinsAt X.mg P := TB.bm.keeps I.bk
  have gP : s.heap.get? P = some { cls := .none, data := .fields ps } := I.hok P _ tP
  have cl : closureFor scope X.env = pure [] := by
    have z := closure_ok (env := X.env) (scope := scope) fun y hy e => absurd e (hfree y hy)
    rw [hcl] at z
    exact z
  refine PySem.W.kla_eval hdef ?_
  cases hc : codeAmong pos ps.toList with
  | some cv =>
    obtain ⟨c', e, co⟩ := ta pos cv hc
    subst e
    rw [hn] at co
    refine PySem.W.kla_makeFunctionHit (mg := X.mg) (c := c) (P := P) (ps := ps) cl I.ok.glob (I.mod.glob.keeps I.bk) hcode (TB.code.keeps I.bk) gP tr hc bB fun ctv h' tk hx hz => ?_
    have J : Inv X pins σ H { s with heap := h', toks := tk } := I.kept hx
    have nf : H h'.objs.size = none := J.hok.fresh (Nat.le_refl _)
    refine k h'.objs.size _ _ (inv_lm (W := ⟨X.env.qual ++ "<lambda>", params, body, scope⟩) (c' := c') (pm := (X.mg "__name__").getD .none) (ctv := ctv) J) (fun b o e _ => (upd_ne (ne_of_none e nf)).trans e) (fun b e => upd_none e) (hT.ext fun b o e => (upd_ne (ne_of_none e nf)).trans e) nf ⟨c', upd_same, (upd_ne (ne_of_none co nf)).trans co⟩
  | none =>
    refine PySem.W.kla_makeFunction (mg := X.mg) (c := c) (P := P) (ps := ps) cl I.ok.glob (I.mod.glob.keeps I.bk) hcode (TB.code.keeps I.bk) gP tr hc TB.gP bB fun c' ctv h' tk hx hge hlt hrec htb => ?_
    obtain ⟨c2, oc, vs, t, e2, ho, hd, hv⟩ := hrec
    cases e2
    have nc : H c' = none := I.hok.fresh hge
    have J := inv_table (t' := tk) (more := #[rawInt pos.line, rawInt pos.col, .ref c']) (h' := h') I tP (fun b o hb e => hx b o hb e) htb hge ⟨oc, vs, t, ho, hd, hv⟩
    have ex : ExtN H (upd (upd H P (.tbl (ps ++ #[rawInt pos.line, rawInt pos.col, .ref c']))) c' (CodeO c' (X.env.qual ++ "<lambda>"))) := fun b o e n => by
      rw [upd_ne (ne_of_none e nc), upd_ne (fun z => by rw [z, tP] at e; exact n ps (Option.some.inj e).symm)]
      exact e
    have eL : (ps ++ #[rawInt pos.line, rawInt pos.col, .ref c']).toList = ps.toList ++ [rawInt pos.line, rawInt pos.col, .ref c'] := by simp
    have T1 : TabsN T (upd (upd H P (.tbl (ps ++ #[rawInt pos.line, rawInt pos.col, .ref c']))) c' (CodeO c' (X.env.qual ++ "<lambda>"))) := fun p hp => by
      by_cases hb : p.1 = P
      · rw [hu p hp hb, hb]
        refine ⟨_, (upd_ne (ne_of_none tP nc)).trans upd_same, by rw [eL]; exact PySem.TriplesOk_snoc _ _ _ _ tr, fun p' cv hcv => ?_⟩
        rw [eL] at hcv
        rcases among_app2 _ tr hcv with z | ⟨z, z1, z2⟩
        · obtain ⟨c0, e1, e2⟩ := ta p' cv z
          exact ⟨c0, e1, ex _ _ e2 codeO_ne⟩
        · refine ⟨c', z, ?_⟩
          rw [← z1, ← z2, hn]
          exact upd_same
      · obtain ⟨ps', a1, a2, a3⟩ := hT p hp
        refine ⟨ps', by rw [upd_ne (ne_of_none a1 nc), upd_ne hb]; exact a1, a2, fun p' cv hcv => ?_⟩
        obtain ⟨c0, e1, e2⟩ := a3 p' cv hcv
        exact ⟨c0, e1, ex _ _ e2 codeO_ne⟩
    have nf := J.hok.fresh (Nat.le_refl h'.objs.size)
    have J2 := inv_lm (W := ⟨X.env.qual ++ "<lambda>", params, body, scope⟩) (c' := c') (t' := tk) (pm := (X.mg "__name__").getD .none) (ctv := ctv) J
    exact k h'.objs.size _ _ J2 (fun b o e n => (upd_ne (ne_of_none (ex b o e n) nf)).trans (ex b o e n)) (fun b e => upd_none (upd_none (upd_none e))) (T1.ext fun b o e => (upd_ne (ne_of_none e nf)).trans e)
      (I.hok.fresh (Nat.le_trans hge (Nat.le_of_lt hlt))) ⟨c', upd_same, (upd_ne (Nat.ne_of_lt hlt)).trans upd_same⟩
end
def tLamV (T : List NTab) (W : LW) : TE := fun _ H Q => TabsN T H ∧ ∀ (f : Addr) (H1 : Hp), ExtN H H1 → (∀ b, H1 b = none → H b = none) → TabsN T H1 → H f = none → IsLm H1 f W → Q (.ref f) H1
section
variable {X : Cx}
theorem pe_lamv {T : List NTab} {nm : Nat → Nat → Str} {c P : Addr} {params : Arguments} {body : Expr} {scope : Scope} {pos : Pos} (TB : TabB X.base X.mg c P) (hcode : X.env.code = .ref c) (hm : (P, nm) ∈ T) (hn : nm pos.line pos.col = X.env.qual ++ "<lambda>") (hu : ∀ p ∈ T, p.1 = P → p.2 = nm)
    (hdef : defaultsOf params X.env = ([], []) := by rfl) (hfree : scope.names.all (fun y => !decide (y.2 = .free)) = true := by rfl) (hcl : cloFrom X.env.cells scope.names [] = [] := by rfl) :
    PE X (.Lambda params body scope pos) (tLamV T ⟨X.env.qual ++ "<lambda>", params, body, scope⟩) :=
  ⟨fun pins s σ H Q I h => lam_mk I TB hcode hm hn hu h.1 hdef (fun y hy e => by have z := List.all_eq_true.mp hfree y hy; rw [e] at z; cases z) hcl fun f H1 s' J e1 e2 T1 n l => ⟨.ref f, H1, J, rfl, h.2 f H1 e1 e2 T1 n l⟩⟩
end
/-! calls -/
section
variable {CX : CXT} {P : Program} {w : World} {K : PySem.W.Frag} {mg : Str → Option Value} {base : Heap} {N ps : List Str} {W : LW} {f c' : Addr} {k : Nat} {A : Around} {outer : List Env} {s : Shared} {H : Hp} {us : List Value} {vs : List V} {Q : VK} {E : XK}
/-- the context of its body -/
abbrev lcx (CX : CXT) (P : Program) (w : World) (K : PySem.W.Frag) (mg : Str → Option Value) (base : Heap) (N : List Str) (W : LW) (f c' : Addr) (A : Around) (outer : List Env) (s : Shared) (H : Hp) (E : XK) : Cx := ncx CX P w K mg base N (W.nf c') f A outer s H E
theorem lam_run (S : NScope N ps [] W.scope) (hb : ∀ (pm ctv : Value) (us : List Value), us.length = ps.length → bindArgs (W.fd c' pm ctv) ⟨us, []⟩ = pure (ps.zip us)) (hr : Room (k + 1) A) (e0 : Env0 P w K mg base A outer s H) (hf : H f = some (LmO f c' W)) (hc : H c' = some (CodeO c' W.q)) (r : Vals vs us) (hl : vs.length = ps.length)
    (hbody : Room k (A.deeper (envF (W.nf c') f s.heap.objs.size)) → ∃ t, PE (lcx CX P w K mg base N W f c' A outer s H E) W.body t ∧ t (startF N vs []) H Q) : codeAny (model P w) A (.call (.ref f) ⟨us, []⟩) (CR CX outer P w H s Q E) s := by
  have lim : s.heap.NoLimit := e0.mod.nolimit.keeps fun b o e => (e0.bs b o e).1
  obtain ⟨od, sl, pm, ctv, ho⟩ := lmO_at e0.hok hf
  refine PySem.W.kla_callFunE hr.depth ho rfl S.co S.gen rfl (codeO_at e0.hok hc) ?_
  rw [hb pm ctv us (by rw [← r.length]; exact hl)]
  refine wpAny_pure (wpAny_newFunctionEnv S.nocell (fun ⟨n, _⟩ hy => S.par n (List.of_mem_zip hy).1) (fun h₁ hns hsb => ⟨lim.fresh _ hsb, ?_⟩) S.kind)
  show codeAny _ _ (.expr W.body (envF (W.nf c') f s.heap.objs.size)) _ _
  refine PySem.W.kla_codeExpr ?_
  have kp : ∀ b o, s.heap.get? b = some o → h₁.get? b = some o := fun b o e => hsb.extBut b o (Nat.ne_of_lt (Heap.lt_size e)) (Heap.get?_push_of_some _ e)
  obtain ⟨t, ht, q⟩ := hbody (hr.deeper _)
  have I : Inv (lcx CX P w K mg base N W f c' A outer s H E) [] (startF N vs []) H { s with heap := h₁, toks := s.toks + (ps.zip us).length } :=
    inv_startN (F := W.nf c') (ws := []) S hr.hd e0 hl r ⟨rfl, fun y c e => (nomatch e), fun x y c e _ => (nomatch e), fun i y e => absurd e (by simp)⟩ hns kp
  exact wpAny_mono (ht.run [] _ (startF N vs []) H Q I q) (fun u s' ⟨v, H', J, rv, qv⟩ => ⟨v, H', J.os, J.bare, J.base, J.hok, rv, qv⟩) fun e s' z => z
end
/-- x(..), the slot i of the running frame holds a lambda; sp: what a call of it does -/
def tCallL (i : Nat) (t : TA) (sp : Addr → Sp) (E : XK) : TE := fun σ H Q => ∃ f W, σ[i]? = some (some (.ref f)) ∧ IsLm H f W ∧ t σ H fun vs H1 => IsLm H1 f W ∧ sp f vs H1 Q E
section
variable {X : Cx} {CX : CXT} {i j : Nat} {x : Str} {t : TA} {e : Expr} {es : List Expr} {p pos : Pos} {sp : Addr → Sp} {E : XK}
theorem fn_lm {pins : List (Addr × Obj)} {σ : L2.St} {H : Hp} {s : Shared} {f : Addr} {W : LW} (I : Inv X pins σ H s) (l : IsLm H f W) : PySem.W.FnAt f s.heap := by
  obtain ⟨c', e, _⟩ := l
  obtain ⟨od, sl, pm, ctv, ho⟩ := lmO_at I.hok e
  exact ⟨_, od, _, sl, ho⟩
theorem pe_calll (hsp : ∀ (f : Addr) (W : LW) (s : Shared) (H : Hp) (us : List Value) (vs : List V) (Q : VK), Env0 X.prog X.w X.K X.mg X.base X.A X.stack s H → IsLm H f W → Vals vs us → sp f vs H Q E → codeAny (model X.prog X.w) X.A (.call (.ref f) ⟨us, []⟩) (CR CX X.stack X.prog X.w H s Q E) s)
    (hx : Passes CX X E) (hN : X.N[i]? = some x) (hv : Vis X.env.scope x) (ha : PA X (e :: es) t)
    (hd : (x == ("__debug__" : Str)) = false := by decide) (hcd : (x == ("__classdict__" : Str)) = false := by decide) (he : starEach (e :: es) X.env = (false, eval e X.env) :: starEach es X.env := by rfl) (hpl : (backTo pos (starEach es X.env)).any (·.1) = false := by rfl) :
    PE X (.Call (.Name x p) (e :: es) [] pos) (tCallL i t sp E) := by
  refine ⟨fun pins s σ H Q I h => ?_⟩
  obtain ⟨f, W, hs, l, q⟩ := h
  refine wpAny_Call_Name_kw (thn ((pe_var (pos := p) hN hv hd hcd).run pins s σ H (fun v H1 => v = .ref f ∧ H1 = H) I ⟨.ref f, hs, rfl, rfl⟩) fun u s1 ⟨v, H1, I1, r1, ev, eH⟩ => ?_)
  subst ev
  rw [eH] at I1
  obtain rfl : u = Value.ref f := r1
  refine PySem.W.callWith_F (first := []) (fn_lm I1 l) (thn (ha.run pos pins s1 σ H _ I1 q) fun us s2 ⟨vs, H2, I2, r, l2, q2⟩ => ⟨fn_lm I2 l2, ?_⟩) he hpl
  refine wpAny_call (codeAny_mono (hsp f W s2 H2 us vs Q I2.env0 l2 r q2) fun r s' z => ?_)
  cases r with
  | error e => exact hx pins σ H2 s2 e s' I2 z
  | ok fl =>
    cases fl with
    | ret u => exact I2.after z
    | next => exact False.elim z
    | brk => exact False.elim z
    | cont => exact False.elim z
end
end GX

set_option Elab.async false
set_option linter.all false
set_option maxRecDepth 100000
set_option maxHeartbeats 4000000
/-! ### what the head tells of such classes -/
namespace GX
open PySem PySem.Spec PyProof.Rows L2
def okv (a b : Option (Option Value)) : Bool := decide (a = b)
def xcB (K : PySem.W.Frag) (newId : String) (tl : List Value) (C fI : Addr) : Bool :=
  (PySem.W.excInitIn K C tl newId && (PySem.W.excOver K C tl && (okv (PySem.W.findIn K (.ref C) "__setattr__") (some (some (.builtin "object.__setattr__"))) && (PySem.W.hasDictIn K C && (okv (PySem.W.findIn K (.ref C) "__getattribute__") (some (some (.builtin "BaseException.__getattribute__")))
    && (okv (PySem.W.findIn K (.ref C) "__getattr__") (some none) && (decide (PySem.W.subIn K (.ref C) (.type "BaseException") = some true) && (PySem.W.keepIn K (.ref C) && (okv (PySem.W.findIn K (.ref C) "__init__") (some (some (.ref fI)))
    && (decide (PySem.W.typeIn K (.ref fI) = some (.type "function")) && ((PySem.W.clsIn K C).isSome && (okv (PySem.W.findIn K (.ref C) "__class__") (some (some (.builtin "object.__class__"))) && decide (PySem.W.mroIn K C (.type "object") = some true)))))))))))))
theorem both {a b : Bool} (h : (a && b) = true) : a = true ∧ b = true := Bool.and_eq_true_iff.mp h
theorem xcB_ok {K : PySem.W.Frag} {newId : String} {tl : List Value} {C fI : Addr} (h : xcB K newId tl C fI = true) : Xc K newId tl C fI := by
  obtain ⟨h1, h⟩ := both h
  obtain ⟨h2, h⟩ := both h
  obtain ⟨h3, h⟩ := both h
  obtain ⟨h4, h⟩ := both h
  obtain ⟨h5, h⟩ := both h
  obtain ⟨h6, h⟩ := both h
  obtain ⟨h7, h⟩ := both h
  obtain ⟨h8, h⟩ := both h
  obtain ⟨h9, h⟩ := both h
  obtain ⟨h10, h⟩ := both h
  obtain ⟨h11, h⟩ := both h
  obtain ⟨h12, h13⟩ := both h
  exact ⟨h1, h2, of_decide_eq_true h3, h4, of_decide_eq_true h5, of_decide_eq_true h6, of_decide_eq_true h7, h8, of_decide_eq_true h9, of_decide_eq_true h10, h11, of_decide_eq_true h12, of_decide_eq_true h13⟩
def xkB (K : PySem.W.Frag) : Bool := okv (PySem.W.specialIn K (.builtin "object.__class__") "__get__") (some (some (.builtin "getset_descriptor.__get__"))) && decide (PySem.W.takesIn K (.builtin "object.__class__") = some true)
theorem xkB_ok {K : PySem.W.Frag} (h : xkB K = true) : Xk K := by
  obtain ⟨h1, h2⟩ := both h
  exact ⟨of_decide_eq_true h1, of_decide_eq_true h2⟩
/-- the class at N gives the base's __init__ by its name -/
structure Xn (K : PySem.W.Frag) (N : Addr) (initId : String) : Prop where
  ga : PySem.W.specialIn K (.ref N) "__getattribute__" = some (some (.builtin "type.__getattribute__"))
  rd : PySem.W.readsIn K N (.type "type") = true
  fi : PySem.W.findCls K (.ref N) (.type "type") "__init__" = some (.val (.builtin initId))
def xnB (K : PySem.W.Frag) (N : Addr) (initId : String) : Bool := okv (PySem.W.specialIn K (.ref N) "__getattribute__") (some (some (.builtin "type.__getattribute__"))) && (PySem.W.readsIn K N (.type "type") &&
  (match PySem.W.findCls K (.ref N) (.type "type") "__init__" with
    | some (.val (.builtin x)) => x == initId
    | _ => false))
theorem xnB_ok {K : PySem.W.Frag} {N : Addr} {initId : String} (h : xnB K N initId = true) : Xn K N initId := by
  obtain ⟨h1, h⟩ := both h
  obtain ⟨h2, h3⟩ := both h
  refine ⟨of_decide_eq_true h1, h2, ?_⟩
  split at h3
  · rename_i x e
    rw [e, beq_iff_eq.mp h3]
  · cases h3
/-- isinstance, pair by pair -/
def isB (K : PySem.W.Frag) (xs : List Str) (ys : List (Str × (Str → Bool))) : Bool := xs.all fun x => ys.all fun y => decide (PySem.W.kitOne K (.ref (He.ga K x)) (.ref (He.ga K y.1)) = some (y.2 x))
theorem isB_ok {K : PySem.W.Frag} {xs : List Str} {ys : List (Str × (Str → Bool))} (h : isB K xs ys = true) {x : Str} {y : Str × (Str → Bool)} (hx : x ∈ xs) (hy : y ∈ ys) : PySem.W.kitOne K (.ref (He.ga K x)) (.ref (He.ga K y.1)) = some (y.2 x) :=
  of_decide_eq_true (List.all_eq_true.mp (List.all_eq_true.mp h x hx) y hy)
def isT (K : PySem.W.Frag) (xs : List Str) (t : String) (f : Str → Bool) : Bool := xs.all fun x => decide (PySem.W.kitOne K (.ref (He.ga K x)) (.type t) = some (f x))
theorem isT_ok {K : PySem.W.Frag} {xs : List Str} {t : String} {f : Str → Bool} (h : isT K xs t f = true) {x : Str} (hx : x ∈ xs) : PySem.W.kitOne K (.ref (He.ga K x)) (.type t) = some (f x) := of_decide_eq_true (List.all_eq_true.mp h x hx)
/-- keywords, no defaults -/
theorem kb_plain {K : PySem.W.Frag} {x qual : Str} {params : Arguments} {body : List Stmt} {scope : Scope} {kws : List (Str × V)} {f : Addr} {fd : FuncData} {ps ks : List Str} (F : FunD K x qual params body scope [] kws f fd) (n : Nat) (g : {α : Type} → List α → List α → List α)
    (hrel : ∀ {vs zs : List V} {us ws : List Value}, Vals vs us → Vals zs ws → Vals (g vs zs) (g us ws))
    (h : ∀ (kV doc pm : Value) (an : Option Addr) (cdv ct : Value) (us ws : List Value), us.length = n → ws.length = ks.length → bindArgs (PySem.W.fnOf x qual params body scope .none kV doc pm an cdv ct) ⟨us, ks.zip ws⟩ = pure (ps.zip (g us ws))) : KBn K fd ps n ks (fun us ws => g us ws) (fun vs zs => g vs zs) := by
  obtain ⟨oc, od, dV, kV, doc, pm, an, cdv, ct, osl, rfl, lk, hcd, hD, hK⟩ := F.ex
  rcases hD with ⟨_, rfl⟩ | ⟨e, _⟩
  · exact ⟨fun s us ws _ l1 l2 => BindsTo.of_looks fun M => .of_pure (h kV doc pm an cdv ct us ws l1 l2), hrel⟩
  · exact absurd rfl e
/-- every parameter by place -/
theorem kb_pos {K : PySem.W.Frag} {fd : FuncData} {ps : List Str} {n : Nat} (b : Binds K fd ps []) (hn : ps.length = n) : KBn K fd ps n [] (fun us _ => us) (fun vs _ => vs) :=
  ⟨fun s us ws X l1 l2 => by
    have z := b s us X (by rw [List.append_nil, l1, hn])
    rw [List.append_nil] at z
    exact z, fun r _ => r⟩
end GX

set_option Elab.async false
set_option linter.all false
set_option maxRecDepth 100000
set_option maxHeartbeats 4000000
/-! ### a head's hook that looks at the interpreter's statics too -/
namespace GX
open PySem PySem.Spec PyProof.Rows L2 He
def asY (g : Addr → Option Obj) (n : Nat) : List Addr := asD g n ++ [PySem.cStatics]
def obsY (n : Nat) (fa : List Fa) (fn : List DefD) (tf : List Defn) (ex : PySem.W.Frag → Bool) (g : Addr → Option Obj) : AlX := (obsT fa fn [] (frT g (asY g n)), ex (frT g (asY g n)) && tabsB g tf (frT g (asY g n)))
theorem saysY {n : Nat} {fa : List Fa} {fn : List DefD} {tf : List Defn} {ex : PySem.W.Frag → Bool} {w : World} {h : Heap} (e : obsY n fa fn tf ex h.get? = valX fn [] w) : SaysX fa fn [] tf ex w h (frT h.get? (asY h.get? n)) := by
  have eT : obsT fa fn [] (frT h.get? (asY h.get? n)) = valT fn [] w := congrArg (fun z : AlX => z.1) e
  have eB : (ex (frT h.get? (asY h.get? n)) && tabsB h.get? tf (frT h.get? (asY h.get? n))) = true := congrArg (fun z : AlX => z.2) e
  obtain ⟨m, tb⟩ := both eB
  have look : ∀ p ∈ tf, PySem.W.codeHdIn (frT h.get? (asY h.get? n)) (cT (frT h.get? (asY h.get? n)) p).1 (cT (frT h.get? (asY h.get? n)) p).2 = true ∧ ∃ o, h.get? (cT (frT h.get? (asY h.get? n)) p).2 = some o ∧ emptyTab o = true := fun p hp => by
    obtain ⟨a, b⟩ := both (List.all_eq_true.mp tb p hp)
    refine ⟨a, ?_⟩
    split at b
    · rename_i o q
      exact ⟨o, q, b⟩
    · cases b
  exact ⟨eT, m, fun p hp => (look p hp).1, fun p hp => let ⟨_, o, q, z⟩ := look p hp; frT_none q z, fun p hp => by
    obtain ⟨_, o, q, z⟩ := look p hp
    rw [q, emptyTab_eq z]⟩
def hookY (n : Nat) (fa : List Fa) (fn : List DefD) (tf : List Defn) (ex : PySem.W.Frag → Bool) : PySem.W.Hook where
  α := AlX
  obs := fun s => obsY n fa fn tf ex s.heap.get?
  val := fun w => valX fn [] w
  says := fun w h => ∃ K : PySem.W.Frag, K.In h ∧ SaysX fa fn [] tf ex w h K
  of := fun _ _ e => ⟨_, frT_in, saysY e⟩
  keeps := fun _ _ _ ⟨K, hK, c⟩ k => ⟨K, PySem.W.Frag.In.keeps hK k, ⟨c.t, c.more, c.hd, c.out, fun p hp => k _ _ (c.empty p hp)⟩⟩
theorem obsY_eq {n : Nat} {fa : List Fa} {fn : List DefD} {tf : List Defn} {ex : PySem.W.Frag → Bool} {g : Addr → Option Obj} {s : Shared} (h : ∀ a, g a = s.heap.get? a) : obsY n fa fn tf ex g = (hookY n fa fn tf ex).obs s := by
  rw [show g = s.heap.get? from funext h]
  rfl
/-! from what is told to the words of a walk -/
/-- the data of the def at f -/
def fdOf (K : PySem.W.Frag) (f : Addr) : FuncData := match K.lookup f with
  | some ⟨_, _, .func fd, _⟩ => fd
  | _ => PySem.W.fnOf "" "" ⟨[], [], none, [], [], none, []⟩ [] ⟨.function, [], false, false, []⟩ .none .none .none .none none .none .none
theorem txt_fun {fa : List Fa} {fn : List DefD} {K : PySem.W.Frag} (c : SaysD fa fn K) (i : Nat) {at_ : Str × Option Str} {name qual : Str} {st : Stmt} (h : fn[i]? = some ⟨at_, name, qual, defArgs st, defBody st, defScope st, [], []⟩) : L2.Fun K name qual st (fAd K at_) (fdOf K (fAd K at_)) := by
  obtain ⟨fd, F⟩ := c.def_ i h
  obtain ⟨oc, od, dV, kV, doc, pm, an, cdv, ct, osl, e, lk, hcd, hD, hK⟩ := F.ex
  have q : fdOf K (fAd K at_) = fd := by unfold fdOf; rw [lk] <;> rfl
  rcases hD with ⟨_, d⟩ | ⟨d, _⟩
  · subst d
    exact ⟨⟨oc, od, kV, doc, pm, an, cdv, ct, osl, q.trans e, by rw [q]; exact lk, hcd⟩, F.kp⟩
  · exact absurd rfl d
theorem fun_kb {K : PySem.W.Frag} {x qual : Str} {st : Stmt} {f : Addr} {fd : FuncData} {ps ks : List Str} (F : L2.Fun K x qual st f fd) (n : Nat) (g : {α : Type} → List α → List α → List α)
    (hrel : ∀ {vs zs : List V} {us ws : List Value}, Vals vs us → Vals zs ws → Vals (g vs zs) (g us ws))
    (h : ∀ (kV doc pm : Value) (an : Option Addr) (cdv ct : Value) (us ws : List Value), us.length = n → ws.length = ks.length → bindArgs (PySem.W.fnOf x qual (defArgs st) (defBody st) (defScope st) .none kV doc pm an cdv ct) ⟨us, ks.zip ws⟩ = pure (ps.zip (g us ws))) : KBn K fd ps n ks (fun us ws => g us ws) (fun vs zs => g vs zs) := by
  obtain ⟨oc, od, kV, doc, pm, an, cdv, ct, osl, e, lk, hcd⟩ := F.ex
  subst e
  exact ⟨fun s us ws _ l1 l2 => BindsTo.of_looks fun M => .of_pure (h kV doc pm an cdv ct us ws l1 l2), hrel⟩
end GX

set_option Elab.async false
set_option linter.all false
set_option maxRecDepth 100000
set_option maxHeartbeats 4000000
namespace NS
open PySem PySem.Spec PyProof.Rows L2 GX
def topS (i : Nat) : Stmt := PySem.Challenge.pw_nearswap_k08_exception_classes.main.body.getD i (.Pass ⟨0, 0, 0, 0⟩)
theorem pos_lit {n : Int} (h : decide (0 < n) = true) : 0 < n := of_decide_eq_true h
theorem div_lit {i j : Int} (h : decide (0 < j ∧ j < 1073741824) = true) : CDiv i j := (of_decide_eq_true h : 0 < j ∧ j < 1073741824)
theorem divW_of {i m : Int} (h : 0 < m) (h2 : m < 2 ^ 100) : CDivW i m := wide_div h (b := 100) (by omega) (by decide) (by decide)

abbrev fA (K : PySem.W.Frag) (x : Str) : Addr := He.ga K x
abbrev mA (K : PySem.W.Frag) (x m : Str) : Addr := He.ma K (He.ga K x) m
abbrev fD (K : PySem.W.Frag) (x : Str) : FuncData := fdOf K (fA K x)
abbrev mD (K : PySem.W.Frag) (x m : Str) : FuncData := fdOf K (mA K x m)
theorem typ_LE : typeOf (.type "LookupError") = pure (.type "type") := by kernel_rfl
abbrev s_InvalidWidth___init : Stmt := (inClass (topS 2) 0)
theorem sc_InvalidWidth___init : FnScope ["self", "value"] ["self", "value"] (defScope s_InvalidWidth___init) := ⟨rfl, rfl, rfl, by decide +kernel, rfl, by decide +kernel, by decide +kernel⟩
abbrev s_InvalidStep___init : Stmt := (inClass (topS 3) 0)
theorem sc_InvalidStep___init : FnScope ["self", "index"] ["self", "index"] (defScope s_InvalidStep___init) := ⟨rfl, rfl, rfl, by decide +kernel, rfl, by decide +kernel, by decide +kernel⟩
abbrev s_InvalidValues___init : Stmt := (inClass (topS 4) 0)
theorem sc_InvalidValues___init : FnScope ["self", "index"] ["self", "index"] (defScope s_InvalidValues___init) := ⟨rfl, rfl, rfl, by decide +kernel, rfl, by decide +kernel, by decide +kernel⟩
abbrev s_InvalidIndex___init : Stmt := (inClass (topS 5) 0)
theorem sc_InvalidIndex___init : FnScope ["self", "index"] ["self", "index"] (defScope s_InvalidIndex___init) := ⟨rfl, rfl, rfl, by decide +kernel, rfl, by decide +kernel, by decide +kernel⟩
abbrev s_InvalidCode___init : Stmt := (inClass (topS 6) 0)
theorem sc_InvalidCode___init : FnScope ["self", "index"] ["self", "index"] (defScope s_InvalidCode___init) := ⟨rfl, rfl, rfl, by decide +kernel, rfl, by decide +kernel, by decide +kernel⟩
abbrev s_InvalidMove___init : Stmt := (inClass (topS 7) 0)
theorem sc_InvalidMove___init : FnScope ["self", "move"] ["self", "move"] (defScope s_InvalidMove___init) := ⟨rfl, rfl, rfl, by decide +kernel, rfl, by decide +kernel, by decide +kernel⟩
abbrev s_InvalidNumber___init : Stmt := (inClass (topS 8) 0)
theorem sc_InvalidNumber___init : FnScope ["self", "number"] ["self", "number"] (defScope s_InvalidNumber___init) := ⟨rfl, rfl, rfl, by decide +kernel, rfl, by decide +kernel, by decide +kernel⟩
abbrev s_WidthMismatch___init : Stmt := (inClass (topS 9) 0)
theorem sc_WidthMismatch___init : FnScope ["self", "first", "second"] ["self", "first", "second"] (defScope s_WidthMismatch___init) := ⟨rfl, rfl, rfl, by decide +kernel, rfl, by decide +kernel, by decide +kernel⟩
abbrev s_NotEquivalent___init : Stmt := (inClass (topS 10) 0)
theorem sc_NotEquivalent___init : FnScope ["self", "bits"] ["self", "bits"] (defScope s_NotEquivalent___init) := ⟨rfl, rfl, rfl, by decide +kernel, rfl, by decide +kernel, by decide +kernel⟩
abbrev s_LimitExceeded___init : Stmt := (inClass (topS 11) 0)
theorem sc_LimitExceeded___init : FnScope ["self", "count"] ["self", "count"] (defScope s_LimitExceeded___init) := ⟨rfl, rfl, rfl, by decide +kernel, rfl, by decide +kernel, by decide +kernel⟩
abbrev s_ParseError___init : Stmt := (inClass (topS 12) 0)
theorem sc_ParseError___init : FnScope ["self", "index"] ["self", "index"] (defScope s_ParseError___init) := ⟨rfl, rfl, rfl, by decide +kernel, rfl, by decide +kernel, by decide +kernel⟩
abbrev s_InvalidCommand___init : Stmt := (inClass (topS 13) 0)
theorem sc_InvalidCommand___init : FnScope ["self", "text"] ["self", "text"] (defScope s_InvalidCommand___init) := ⟨rfl, rfl, rfl, by decide +kernel, rfl, by decide +kernel, by decide +kernel⟩
abbrev s_InvalidChange___init : Stmt := (inClass (topS 14) 0)
theorem sc_InvalidChange___init : FnScope ["self", "index"] ["self", "index"] (defScope s_InvalidChange___init) := ⟨rfl, rfl, rfl, by decide +kernel, rfl, by decide +kernel, by decide +kernel⟩
abbrev s_NothingToUndo___init : Stmt := (inClass (topS 15) 0)
theorem sc_NothingToUndo___init : FnScope ["self", "count"] ["self", "count"] (defScope s_NothingToUndo___init) := ⟨rfl, rfl, rfl, by decide +kernel, rfl, by decide +kernel, by decide +kernel⟩
abbrev s_UnknownName___init : Stmt := (inClass (topS 16) 0)
theorem sc_UnknownName___init : FnScope ["self", "name"] ["self", "name"] (defScope s_UnknownName___init) := ⟨rfl, rfl, rfl, by decide +kernel, rfl, by decide +kernel, by decide +kernel⟩
abbrev s_law_source : Stmt := (topS 18)
theorem sc_law_source : FnScope ["_law_script", "_law_k", "_law_cell", "_law_size", "_law_mixed"] ["_law_script", "_law_k"] (defScope s_law_source) := ⟨rfl, rfl, rfl, by decide +kernel, rfl, by decide +kernel, by decide +kernel⟩
abbrev s_law_draw : Stmt := (topS 19)
theorem sc_law_draw : FnScope ["_law_source_here", "_law_many", "_law_result"] ["_law_source_here", "_law_many"] (defScope s_law_draw) := ⟨rfl, rfl, rfl, by decide +kernel, rfl, by decide +kernel, by decide +kernel⟩
abbrev s_law_made : Stmt := (topS 20)
theorem sc_law_made : FnScope ["_law_figure", "_law_phrase", "_law_result", "_law_pair"] ["_law_figure", "_law_phrase"] (defScope s_law_made) := ⟨rfl, rfl, rfl, by decide +kernel, rfl, by decide +kernel, by decide +kernel⟩
abbrev s_law_classes : Stmt := (topS 21)
theorem sc_law_classes : FnScope ["_law_error", "_law_result"] ["_law_error"] (defScope s_law_classes) := ⟨rfl, rfl, rfl, by decide +kernel, rfl, by decide +kernel, by decide +kernel⟩
abbrev s_law_bases : Stmt := (topS 22)
theorem sc_law_bases : FnScope ["_law_error", "_law_place"] ["_law_error", "_law_place"] (defScope s_law_bases) := ⟨rfl, rfl, rfl, by decide +kernel, rfl, by decide +kernel, by decide +kernel⟩
abbrev s_law : Stmt := (topS 23)
theorem sc_law : FnScope ["_law_script", "_law_k", "_law_source_here", "_law_figure", "_law_phrase", "_law_place", "_law_one", "_law_two", "_law_reads", "_law_expected", "_law_error", "_law_spot"] ["_law_script"] (defScope s_law) := ⟨rfl, rfl, rfl, by decide +kernel, rfl, by decide +kernel, by decide +kernel⟩
def exV : List Str := ["InvalidWidth", "InvalidStep", "InvalidValues", "InvalidIndex", "InvalidCode", "InvalidMove", "InvalidNumber", "WidthMismatch", "NotEquivalent", "LimitExceeded", "ParseError", "InvalidCommand", "InvalidChange", "NothingToUndo"]
def exs : List Str := exV ++ ([("UnknownName" : Str)] : List Str)
def flds : List Str := ["value", "index", "move", "number", "first", "second", "bits", "count", "text", "name"]
abbrev tlV : List Value := [.type "ValueError", .type "Exception", .type "BaseException", .type "object"]
abbrev tlL : List Value := [.type "LookupError", .type "Exception", .type "BaseException", .type "object"]
structure Txt (K : PySem.W.Frag) (mg : Str → Option Value) : Prop where
  F_InvalidWidth___init : L2.Fun K "__init__" "InvalidWidth.__init__" s_InvalidWidth___init (mA K "InvalidWidth" "__init__") (mD K "InvalidWidth" "__init__")
  F_InvalidStep___init : L2.Fun K "__init__" "InvalidStep.__init__" s_InvalidStep___init (mA K "InvalidStep" "__init__") (mD K "InvalidStep" "__init__")
  F_InvalidValues___init : L2.Fun K "__init__" "InvalidValues.__init__" s_InvalidValues___init (mA K "InvalidValues" "__init__") (mD K "InvalidValues" "__init__")
  F_InvalidIndex___init : L2.Fun K "__init__" "InvalidIndex.__init__" s_InvalidIndex___init (mA K "InvalidIndex" "__init__") (mD K "InvalidIndex" "__init__")
  F_InvalidCode___init : L2.Fun K "__init__" "InvalidCode.__init__" s_InvalidCode___init (mA K "InvalidCode" "__init__") (mD K "InvalidCode" "__init__")
  F_InvalidMove___init : L2.Fun K "__init__" "InvalidMove.__init__" s_InvalidMove___init (mA K "InvalidMove" "__init__") (mD K "InvalidMove" "__init__")
  F_InvalidNumber___init : L2.Fun K "__init__" "InvalidNumber.__init__" s_InvalidNumber___init (mA K "InvalidNumber" "__init__") (mD K "InvalidNumber" "__init__")
  F_WidthMismatch___init : L2.Fun K "__init__" "WidthMismatch.__init__" s_WidthMismatch___init (mA K "WidthMismatch" "__init__") (mD K "WidthMismatch" "__init__")
  F_NotEquivalent___init : L2.Fun K "__init__" "NotEquivalent.__init__" s_NotEquivalent___init (mA K "NotEquivalent" "__init__") (mD K "NotEquivalent" "__init__")
  F_LimitExceeded___init : L2.Fun K "__init__" "LimitExceeded.__init__" s_LimitExceeded___init (mA K "LimitExceeded" "__init__") (mD K "LimitExceeded" "__init__")
  F_ParseError___init : L2.Fun K "__init__" "ParseError.__init__" s_ParseError___init (mA K "ParseError" "__init__") (mD K "ParseError" "__init__")
  F_InvalidCommand___init : L2.Fun K "__init__" "InvalidCommand.__init__" s_InvalidCommand___init (mA K "InvalidCommand" "__init__") (mD K "InvalidCommand" "__init__")
  F_InvalidChange___init : L2.Fun K "__init__" "InvalidChange.__init__" s_InvalidChange___init (mA K "InvalidChange" "__init__") (mD K "InvalidChange" "__init__")
  F_NothingToUndo___init : L2.Fun K "__init__" "NothingToUndo.__init__" s_NothingToUndo___init (mA K "NothingToUndo" "__init__") (mD K "NothingToUndo" "__init__")
  F_UnknownName___init : L2.Fun K "__init__" "UnknownName.__init__" s_UnknownName___init (mA K "UnknownName" "__init__") (mD K "UnknownName" "__init__")
  F_law_source : L2.Fun K "_law_source" "_law_source" s_law_source (fA K "_law_source") (fD K "_law_source")
  g_law_source : mg "_law_source" = some (.ref (fA K "_law_source"))
  F_law_draw : L2.Fun K "_law_draw" "_law_draw" s_law_draw (fA K "_law_draw") (fD K "_law_draw")
  g_law_draw : mg "_law_draw" = some (.ref (fA K "_law_draw"))
  F_law_made : L2.Fun K "_law_made" "_law_made" s_law_made (fA K "_law_made") (fD K "_law_made")
  g_law_made : mg "_law_made" = some (.ref (fA K "_law_made"))
  F_law_classes : L2.Fun K "_law_classes" "_law_classes" s_law_classes (fA K "_law_classes") (fD K "_law_classes")
  g_law_classes : mg "_law_classes" = some (.ref (fA K "_law_classes"))
  F_law_bases : L2.Fun K "_law_bases" "_law_bases" s_law_bases (fA K "_law_bases") (fD K "_law_bases")
  g_law_bases : mg "_law_bases" = some (.ref (fA K "_law_bases"))
  F_law : L2.Fun K "law" "law" s_law (fA K "law") (fD K "law")
  g_law : mg "law" = some (.ref (fA K "law"))
  g_NetworkError : mg "NetworkError" = some (.ref (fA K "NetworkError"))
  g_InvalidWidth : mg "InvalidWidth" = some (.ref (fA K "InvalidWidth"))
  g_InvalidStep : mg "InvalidStep" = some (.ref (fA K "InvalidStep"))
  g_InvalidValues : mg "InvalidValues" = some (.ref (fA K "InvalidValues"))
  g_InvalidIndex : mg "InvalidIndex" = some (.ref (fA K "InvalidIndex"))
  g_InvalidCode : mg "InvalidCode" = some (.ref (fA K "InvalidCode"))
  g_InvalidMove : mg "InvalidMove" = some (.ref (fA K "InvalidMove"))
  g_InvalidNumber : mg "InvalidNumber" = some (.ref (fA K "InvalidNumber"))
  g_WidthMismatch : mg "WidthMismatch" = some (.ref (fA K "WidthMismatch"))
  g_NotEquivalent : mg "NotEquivalent" = some (.ref (fA K "NotEquivalent"))
  g_LimitExceeded : mg "LimitExceeded" = some (.ref (fA K "LimitExceeded"))
  g_ParseError : mg "ParseError" = some (.ref (fA K "ParseError"))
  g_InvalidCommand : mg "InvalidCommand" = some (.ref (fA K "InvalidCommand"))
  g_InvalidChange : mg "InvalidChange" = some (.ref (fA K "InvalidChange"))
  g_NothingToUndo : mg "NothingToUndo" = some (.ref (fA K "NothingToUndo"))
  g_UnknownName : mg "UnknownName" = some (.ref (fA K "UnknownName"))
  z_LookupError : mg "LookupError" = none
  z_ValueError : mg "ValueError" = none
  z_abs : mg "abs" = none
  z_enumerate : mg "enumerate" = none
  z_int : mg "int" = none
  z_isinstance : mg "isinstance" = none
  z_len : mg "len" = none
  z_max : mg "max" = none
  z_min : mg "min" = none
  z_range : mg "range" = none
  z_sum : mg "sum" = none
  xk : Xk K
  n_NetworkError : Xn K (fA K "NetworkError") "ValueError.__init__"
  xV : ∀ x ∈ exV, Xc K "ValueError.__new__" tlV (fA K x) (mA K x "__init__")
  xL : Xc K "LookupError.__new__" tlL (fA K "UnknownName") (mA K "UnknownName" "__init__")
  fi_LookupError : PySem.W.findCls K (.type "LookupError") (.type "type") "__init__" = some (.val (.builtin "LookupError.__init__"))
  nf : ∀ x ∈ exs, ∀ f ∈ flds, PySem.W.findIn K (.ref (fA K x)) f = some none
  is_ : ∀ x ∈ exs, ∀ y ∈ exs, PySem.W.kitOne K (.ref (fA K x)) (.ref (fA K y)) = some (x == y)
  isN : ∀ x ∈ exs, PySem.W.kitOne K (.ref (fA K x)) (.ref (fA K "NetworkError")) = some (x != "UnknownName")
  isV : ∀ x ∈ exs, PySem.W.kitOne K (.ref (fA K x)) (.type "ValueError") = some (x != "UnknownName")
  isL : ∀ x ∈ exs, PySem.W.kitOne K (.ref (fA K x)) (.type "LookupError") = some (x == "UnknownName")
theorem Txt.b_InvalidWidth___init {K : PySem.W.Frag} {mg : Str → Option Value} (T : Txt K mg) : Binds K (mD K "InvalidWidth" "__init__") ["self", "value"] [] := T.F_InvalidWidth___init.binds fun _ _ _ _ _ _ us hl => match us, hl with | [_, _], _ => rfl
theorem Txt.b_InvalidStep___init {K : PySem.W.Frag} {mg : Str → Option Value} (T : Txt K mg) : Binds K (mD K "InvalidStep" "__init__") ["self", "index"] [] := T.F_InvalidStep___init.binds fun _ _ _ _ _ _ us hl => match us, hl with | [_, _], _ => rfl
theorem Txt.b_InvalidValues___init {K : PySem.W.Frag} {mg : Str → Option Value} (T : Txt K mg) : Binds K (mD K "InvalidValues" "__init__") ["self", "index"] [] := T.F_InvalidValues___init.binds fun _ _ _ _ _ _ us hl => match us, hl with | [_, _], _ => rfl
theorem Txt.b_InvalidIndex___init {K : PySem.W.Frag} {mg : Str → Option Value} (T : Txt K mg) : Binds K (mD K "InvalidIndex" "__init__") ["self", "index"] [] := T.F_InvalidIndex___init.binds fun _ _ _ _ _ _ us hl => match us, hl with | [_, _], _ => rfl
theorem Txt.b_InvalidCode___init {K : PySem.W.Frag} {mg : Str → Option Value} (T : Txt K mg) : Binds K (mD K "InvalidCode" "__init__") ["self", "index"] [] := T.F_InvalidCode___init.binds fun _ _ _ _ _ _ us hl => match us, hl with | [_, _], _ => rfl
theorem Txt.b_InvalidMove___init {K : PySem.W.Frag} {mg : Str → Option Value} (T : Txt K mg) : Binds K (mD K "InvalidMove" "__init__") ["self", "move"] [] := T.F_InvalidMove___init.binds fun _ _ _ _ _ _ us hl => match us, hl with | [_, _], _ => rfl
theorem Txt.b_InvalidNumber___init {K : PySem.W.Frag} {mg : Str → Option Value} (T : Txt K mg) : Binds K (mD K "InvalidNumber" "__init__") ["self", "number"] [] := T.F_InvalidNumber___init.binds fun _ _ _ _ _ _ us hl => match us, hl with | [_, _], _ => rfl
theorem Txt.b_WidthMismatch___init {K : PySem.W.Frag} {mg : Str → Option Value} (T : Txt K mg) : Binds K (mD K "WidthMismatch" "__init__") ["self", "first", "second"] [] := T.F_WidthMismatch___init.binds fun _ _ _ _ _ _ us hl => match us, hl with | [_, _, _], _ => rfl
theorem Txt.b_NotEquivalent___init {K : PySem.W.Frag} {mg : Str → Option Value} (T : Txt K mg) : Binds K (mD K "NotEquivalent" "__init__") ["self", "bits"] [] := T.F_NotEquivalent___init.binds fun _ _ _ _ _ _ us hl => match us, hl with | [_, _], _ => rfl
theorem Txt.b_LimitExceeded___init {K : PySem.W.Frag} {mg : Str → Option Value} (T : Txt K mg) : Binds K (mD K "LimitExceeded" "__init__") ["self", "count"] [] := T.F_LimitExceeded___init.binds fun _ _ _ _ _ _ us hl => match us, hl with | [_, _], _ => rfl
theorem Txt.b_ParseError___init {K : PySem.W.Frag} {mg : Str → Option Value} (T : Txt K mg) : Binds K (mD K "ParseError" "__init__") ["self", "index"] [] := T.F_ParseError___init.binds fun _ _ _ _ _ _ us hl => match us, hl with | [_, _], _ => rfl
theorem Txt.b_InvalidCommand___init {K : PySem.W.Frag} {mg : Str → Option Value} (T : Txt K mg) : Binds K (mD K "InvalidCommand" "__init__") ["self", "text"] [] := T.F_InvalidCommand___init.binds fun _ _ _ _ _ _ us hl => match us, hl with | [_, _], _ => rfl
theorem Txt.b_InvalidChange___init {K : PySem.W.Frag} {mg : Str → Option Value} (T : Txt K mg) : Binds K (mD K "InvalidChange" "__init__") ["self", "index"] [] := T.F_InvalidChange___init.binds fun _ _ _ _ _ _ us hl => match us, hl with | [_, _], _ => rfl
theorem Txt.b_NothingToUndo___init {K : PySem.W.Frag} {mg : Str → Option Value} (T : Txt K mg) : Binds K (mD K "NothingToUndo" "__init__") ["self", "count"] [] := T.F_NothingToUndo___init.binds fun _ _ _ _ _ _ us hl => match us, hl with | [_, _], _ => rfl
theorem Txt.b_UnknownName___init {K : PySem.W.Frag} {mg : Str → Option Value} (T : Txt K mg) : Binds K (mD K "UnknownName" "__init__") ["self", "name"] [] := T.F_UnknownName___init.binds fun _ _ _ _ _ _ us hl => match us, hl with | [_, _], _ => rfl
theorem Txt.b_law_source {K : PySem.W.Frag} {mg : Str → Option Value} (T : Txt K mg) : Binds K (fD K "_law_source") ["_law_script", "_law_k"] [] := T.F_law_source.binds fun _ _ _ _ _ _ us hl => match us, hl with | [_, _], _ => rfl
theorem Txt.b_law_draw {K : PySem.W.Frag} {mg : Str → Option Value} (T : Txt K mg) : Binds K (fD K "_law_draw") ["_law_source_here", "_law_many"] [] := T.F_law_draw.binds fun _ _ _ _ _ _ us hl => match us, hl with | [_, _], _ => rfl
theorem Txt.b_law_made {K : PySem.W.Frag} {mg : Str → Option Value} (T : Txt K mg) : Binds K (fD K "_law_made") ["_law_figure", "_law_phrase"] [] := T.F_law_made.binds fun _ _ _ _ _ _ us hl => match us, hl with | [_, _], _ => rfl
theorem Txt.b_law_classes {K : PySem.W.Frag} {mg : Str → Option Value} (T : Txt K mg) : Binds K (fD K "_law_classes") ["_law_error"] [] := T.F_law_classes.binds fun _ _ _ _ _ _ us hl => match us, hl with | [_], _ => rfl
theorem Txt.b_law_bases {K : PySem.W.Frag} {mg : Str → Option Value} (T : Txt K mg) : Binds K (fD K "_law_bases") ["_law_error", "_law_place"] [] := T.F_law_bases.binds fun _ _ _ _ _ _ us hl => match us, hl with | [_, _], _ => rfl
theorem Txt.b_law {K : PySem.W.Frag} {mg : Str → Option Value} (T : Txt K mg) : Binds K (fD K "law") ["_law_script"] [] := T.F_law.binds fun _ _ _ _ _ _ us hl => match us, hl with | [_], _ => rfl
/-- an exception's own __init__: the n arguments, told as fields -/
def spI (C : Addr) (n : Nat) (fs : List V → List (Str × V)) : Sp := fun vs H Q _ => ∃ (a : Addr) (ys : List V), vs = V.ref a :: ys ∧ ys.length = n ∧ H a = some (exo a C none) ∧ ∀ H', XO H' a C (fs ys) → (∀ b u, b ≠ a → H b = some u → H' b = some u) → (∀ b, H' b = none → H b = none) → Q .non H'
theorem spI_len {C : Addr} {n : Nat} {fs : List V → List (Str × V)} (vs : List V) (H : Hp) (Q : VK) (E : XK) (h : spI C n fs vs H Q E) : vs.length = n + 1 := by
  obtain ⟨a, ys, rfl, hl, _⟩ := h
  rw [List.length_cons, hl]
def fldsOf (fs : List Str) (ys : List V) : List (Str × V) := (fs.zip ys).reverse
section
variable {K : PySem.W.Frag} {B newId initId : String} {tl : List Value} {C fI : Addr} {H : Hp} {Q : VK} {a : Addr} {y z m : V} {f g : Str} {N : List Str}
theorem init1 (b : Xb B newId initId tl) (T : Xc K newId tl C fI) (hf : PySem.W.findIn K (.ref C) f = some none) (ea : H a = some (exo a C none)) (k : ∀ H', XO H' a C (fldsOf [f] [y]) → (∀ b u, b ≠ a → H b = some u → H' b = some u) → (∀ b, H' b = none → H b = none) → Q .non H') :
    tSeq (tDrop (tXinit K newId tl (tCons (tVar 0) (tCons (tC m) tNil)))) (tXset K f (tVar 0) (tVar 1)) { nx := fun _ H' => Q .non H', rt := Q } (L2.start N [V.ref a, y]) H := by
  refine ⟨_, rfl, a, C, fI, [m], rfl, (by decide : 1 ≤ 1000), T, ea, _, rfl, _, rfl, a, C, fI, rfl, ⟨_, _, _, _, b, T⟩, by unfold PySem.W.takerIn; rw [hf]; rfl, .inl ⟨ea, fun dx n ne => k _ ⟨dx, upd_same, (upd_ne ne).trans upd_same⟩ (fun b u hb e => (upd_ne hb).trans ((upd_ne (ne_of_none e n)).trans e)) fun b e => NdefX.upd_none (NdefX.upd_none e)⟩⟩
theorem init2 (b : Xb B newId initId tl) (T : Xc K newId tl C fI) (hf : PySem.W.findIn K (.ref C) f = some none) (hg : PySem.W.findIn K (.ref C) g = some none) (ea : H a = some (exo a C none)) (k : ∀ H', XO H' a C (fldsOf [f, g] [y, z]) → (∀ b u, b ≠ a → H b = some u → H' b = some u) → (∀ b, H' b = none → H b = none) → Q .non H') :
    tSeq (tDrop (tXinit K newId tl (tCons (tVar 0) (tCons (tC m) tNil)))) (tSeq (tXset K f (tVar 0) (tVar 1)) (tXset K g (tVar 0) (tVar 2))) { nx := fun _ H' => Q .non H', rt := Q } (L2.start N [V.ref a, y, z]) H := by
  refine ⟨_, rfl, a, C, fI, [m], rfl, (by decide : 1 ≤ 1000), T, ea, _, rfl, _, rfl, a, C, fI, rfl, ⟨_, _, _, _, b, T⟩, by unfold PySem.W.takerIn; rw [hf]; rfl, .inl ⟨ea, fun dx n ne => ?_⟩⟩
  refine ⟨_, rfl, _, rfl, a, C, fI, rfl, ⟨_, _, _, _, b, T⟩, by unfold PySem.W.takerIn; rw [hg]; rfl, .inr ⟨dx, [(f, y)], upd_same, (upd_ne ne).trans upd_same, (by decide : 1 ≤ 900), k _ ⟨dx, (upd_ne ne.symm).trans upd_same, upd_same⟩ (fun b u hb e => ?_) fun b e => NdefX.upd_none (NdefX.upd_none (NdefX.upd_none e))⟩⟩
  have nd := ne_of_none e n
  exact (upd_ne nd).trans ((upd_ne hb).trans ((upd_ne nd).trans e))
end
section
variable {P : Program} {w : World} {K : PySem.W.Frag} {mg : Str → Option Value} {base : Heap}
theorem ok_InvalidWidth_init (T : Txt K mg) : FnOk P w K mg base (L2.CX P w) 1 (mA K "InvalidWidth" "__init__") (mD K "InvalidWidth" "__init__") ["self", "value"] (spI (fA K "InvalidWidth") 1 (fldsOf ["value"])) := by
  refine T.F_InvalidWidth___init.okX sc_InvalidWidth___init (fun vs H Q E h => spI_len vs H Q E h) (fun cdv A outer s H vs Q E hr h => ?_)
  obtain ⟨a, ys, rfl, hl, ea, k⟩ := h
  obtain ⟨y, rfl⟩ := List.length_eq_one_iff.mp hl
  exact ⟨_, (pss_cons (ps_expr (pe_xinitC xb_value (by rfl) T.g_NetworkError T.n_NetworkError.ga T.n_NetworkError.rd T.n_NetworkError.fi rfl (pa_cons (pv 0) (pa_cons pe_str pa_nil))))
      (pss_one (ps_xset (pv 0) (pv 1)))), init1 xb_value (T.xV "InvalidWidth" (by decide)) (T.nf "InvalidWidth" (by decide) "value" (by decide)) ea k⟩
theorem Txt.kb_InvalidWidth (T : Txt K mg) : KBn K (mD K "InvalidWidth" "__init__") ["self", "value"] 1 ["value"] (fun us ws => us ++ ws) (fun vs zs => vs ++ zs) :=
  fun_kb (ks := ["value"]) T.F_InvalidWidth___init 1 (fun us ws => us ++ ws) (fun r1 r2 => r1.append r2) fun _ _ _ _ _ _ us ws l1 l2 => match us, ws, l1, l2 with | [_], [_], _, _ => rfl
theorem Txt.X_InvalidWidth (T : Txt K mg) : Xc K "ValueError.__new__" tlV (fA K "InvalidWidth") (mA K "InvalidWidth" "__init__") := T.xV "InvalidWidth" (by decide)
theorem ok_InvalidStep_init (T : Txt K mg) : FnOk P w K mg base (L2.CX P w) 1 (mA K "InvalidStep" "__init__") (mD K "InvalidStep" "__init__") ["self", "index"] (spI (fA K "InvalidStep") 1 (fldsOf ["index"])) := by
  refine T.F_InvalidStep___init.okX sc_InvalidStep___init (fun vs H Q E h => spI_len vs H Q E h) (fun cdv A outer s H vs Q E hr h => ?_)
  obtain ⟨a, ys, rfl, hl, ea, k⟩ := h
  obtain ⟨y, rfl⟩ := List.length_eq_one_iff.mp hl
  exact ⟨_, (pss_cons (ps_expr (pe_xinitC xb_value (by rfl) T.g_NetworkError T.n_NetworkError.ga T.n_NetworkError.rd T.n_NetworkError.fi rfl (pa_cons (pv 0) (pa_cons pe_str pa_nil))))
      (pss_one (ps_xset (pv 0) (pv 1)))), init1 xb_value (T.xV "InvalidStep" (by decide)) (T.nf "InvalidStep" (by decide) "index" (by decide)) ea k⟩
theorem Txt.kb_InvalidStep (T : Txt K mg) : KBn K (mD K "InvalidStep" "__init__") ["self", "index"] 1 ["index"] (fun us ws => us ++ ws) (fun vs zs => vs ++ zs) :=
  fun_kb (ks := ["index"]) T.F_InvalidStep___init 1 (fun us ws => us ++ ws) (fun r1 r2 => r1.append r2) fun _ _ _ _ _ _ us ws l1 l2 => match us, ws, l1, l2 with | [_], [_], _, _ => rfl
theorem Txt.X_InvalidStep (T : Txt K mg) : Xc K "ValueError.__new__" tlV (fA K "InvalidStep") (mA K "InvalidStep" "__init__") := T.xV "InvalidStep" (by decide)
theorem ok_InvalidValues_init (T : Txt K mg) : FnOk P w K mg base (L2.CX P w) 1 (mA K "InvalidValues" "__init__") (mD K "InvalidValues" "__init__") ["self", "index"] (spI (fA K "InvalidValues") 1 (fldsOf ["index"])) := by
  refine T.F_InvalidValues___init.okX sc_InvalidValues___init (fun vs H Q E h => spI_len vs H Q E h) (fun cdv A outer s H vs Q E hr h => ?_)
  obtain ⟨a, ys, rfl, hl, ea, k⟩ := h
  obtain ⟨y, rfl⟩ := List.length_eq_one_iff.mp hl
  exact ⟨_, (pss_cons (ps_expr (pe_xinitC xb_value (by rfl) T.g_NetworkError T.n_NetworkError.ga T.n_NetworkError.rd T.n_NetworkError.fi rfl (pa_cons (pv 0) (pa_cons pe_str pa_nil))))
      (pss_one (ps_xset (pv 0) (pv 1)))), init1 xb_value (T.xV "InvalidValues" (by decide)) (T.nf "InvalidValues" (by decide) "index" (by decide)) ea k⟩
theorem Txt.kb_InvalidValues (T : Txt K mg) : KBn K (mD K "InvalidValues" "__init__") ["self", "index"] 1 ["index"] (fun us ws => us ++ ws) (fun vs zs => vs ++ zs) :=
  fun_kb (ks := ["index"]) T.F_InvalidValues___init 1 (fun us ws => us ++ ws) (fun r1 r2 => r1.append r2) fun _ _ _ _ _ _ us ws l1 l2 => match us, ws, l1, l2 with | [_], [_], _, _ => rfl
theorem Txt.X_InvalidValues (T : Txt K mg) : Xc K "ValueError.__new__" tlV (fA K "InvalidValues") (mA K "InvalidValues" "__init__") := T.xV "InvalidValues" (by decide)
theorem ok_InvalidIndex_init (T : Txt K mg) : FnOk P w K mg base (L2.CX P w) 1 (mA K "InvalidIndex" "__init__") (mD K "InvalidIndex" "__init__") ["self", "index"] (spI (fA K "InvalidIndex") 1 (fldsOf ["index"])) := by
  refine T.F_InvalidIndex___init.okX sc_InvalidIndex___init (fun vs H Q E h => spI_len vs H Q E h) (fun cdv A outer s H vs Q E hr h => ?_)
  obtain ⟨a, ys, rfl, hl, ea, k⟩ := h
  obtain ⟨y, rfl⟩ := List.length_eq_one_iff.mp hl
  exact ⟨_, (pss_cons (ps_expr (pe_xinitC xb_value (by rfl) T.g_NetworkError T.n_NetworkError.ga T.n_NetworkError.rd T.n_NetworkError.fi rfl (pa_cons (pv 0) (pa_cons pe_str pa_nil))))
      (pss_one (ps_xset (pv 0) (pv 1)))), init1 xb_value (T.xV "InvalidIndex" (by decide)) (T.nf "InvalidIndex" (by decide) "index" (by decide)) ea k⟩
theorem Txt.kb_InvalidIndex (T : Txt K mg) : KBn K (mD K "InvalidIndex" "__init__") ["self", "index"] 1 ["index"] (fun us ws => us ++ ws) (fun vs zs => vs ++ zs) :=
  fun_kb (ks := ["index"]) T.F_InvalidIndex___init 1 (fun us ws => us ++ ws) (fun r1 r2 => r1.append r2) fun _ _ _ _ _ _ us ws l1 l2 => match us, ws, l1, l2 with | [_], [_], _, _ => rfl
theorem Txt.X_InvalidIndex (T : Txt K mg) : Xc K "ValueError.__new__" tlV (fA K "InvalidIndex") (mA K "InvalidIndex" "__init__") := T.xV "InvalidIndex" (by decide)
theorem ok_InvalidCode_init (T : Txt K mg) : FnOk P w K mg base (L2.CX P w) 1 (mA K "InvalidCode" "__init__") (mD K "InvalidCode" "__init__") ["self", "index"] (spI (fA K "InvalidCode") 1 (fldsOf ["index"])) := by
  refine T.F_InvalidCode___init.okX sc_InvalidCode___init (fun vs H Q E h => spI_len vs H Q E h) (fun cdv A outer s H vs Q E hr h => ?_)
  obtain ⟨a, ys, rfl, hl, ea, k⟩ := h
  obtain ⟨y, rfl⟩ := List.length_eq_one_iff.mp hl
  exact ⟨_, (pss_cons (ps_expr (pe_xinitC xb_value (by rfl) T.g_NetworkError T.n_NetworkError.ga T.n_NetworkError.rd T.n_NetworkError.fi rfl (pa_cons (pv 0) (pa_cons pe_str pa_nil))))
      (pss_one (ps_xset (pv 0) (pv 1)))), init1 xb_value (T.xV "InvalidCode" (by decide)) (T.nf "InvalidCode" (by decide) "index" (by decide)) ea k⟩
theorem Txt.kb_InvalidCode (T : Txt K mg) : KBn K (mD K "InvalidCode" "__init__") ["self", "index"] 1 ["index"] (fun us ws => us ++ ws) (fun vs zs => vs ++ zs) :=
  fun_kb (ks := ["index"]) T.F_InvalidCode___init 1 (fun us ws => us ++ ws) (fun r1 r2 => r1.append r2) fun _ _ _ _ _ _ us ws l1 l2 => match us, ws, l1, l2 with | [_], [_], _, _ => rfl
theorem Txt.X_InvalidCode (T : Txt K mg) : Xc K "ValueError.__new__" tlV (fA K "InvalidCode") (mA K "InvalidCode" "__init__") := T.xV "InvalidCode" (by decide)
theorem ok_InvalidMove_init (T : Txt K mg) : FnOk P w K mg base (L2.CX P w) 1 (mA K "InvalidMove" "__init__") (mD K "InvalidMove" "__init__") ["self", "move"] (spI (fA K "InvalidMove") 1 (fldsOf ["move"])) := by
  refine T.F_InvalidMove___init.okX sc_InvalidMove___init (fun vs H Q E h => spI_len vs H Q E h) (fun cdv A outer s H vs Q E hr h => ?_)
  obtain ⟨a, ys, rfl, hl, ea, k⟩ := h
  obtain ⟨y, rfl⟩ := List.length_eq_one_iff.mp hl
  exact ⟨_, (pss_cons (ps_expr (pe_xinitC xb_value (by rfl) T.g_NetworkError T.n_NetworkError.ga T.n_NetworkError.rd T.n_NetworkError.fi rfl (pa_cons (pv 0) (pa_cons pe_str pa_nil))))
      (pss_one (ps_xset (pv 0) (pv 1)))), init1 xb_value (T.xV "InvalidMove" (by decide)) (T.nf "InvalidMove" (by decide) "move" (by decide)) ea k⟩
theorem Txt.kb_InvalidMove (T : Txt K mg) : KBn K (mD K "InvalidMove" "__init__") ["self", "move"] 1 ["move"] (fun us ws => us ++ ws) (fun vs zs => vs ++ zs) :=
  fun_kb (ks := ["move"]) T.F_InvalidMove___init 1 (fun us ws => us ++ ws) (fun r1 r2 => r1.append r2) fun _ _ _ _ _ _ us ws l1 l2 => match us, ws, l1, l2 with | [_], [_], _, _ => rfl
theorem Txt.X_InvalidMove (T : Txt K mg) : Xc K "ValueError.__new__" tlV (fA K "InvalidMove") (mA K "InvalidMove" "__init__") := T.xV "InvalidMove" (by decide)
theorem ok_InvalidNumber_init (T : Txt K mg) : FnOk P w K mg base (L2.CX P w) 1 (mA K "InvalidNumber" "__init__") (mD K "InvalidNumber" "__init__") ["self", "number"] (spI (fA K "InvalidNumber") 1 (fldsOf ["number"])) := by
  refine T.F_InvalidNumber___init.okX sc_InvalidNumber___init (fun vs H Q E h => spI_len vs H Q E h) (fun cdv A outer s H vs Q E hr h => ?_)
  obtain ⟨a, ys, rfl, hl, ea, k⟩ := h
  obtain ⟨y, rfl⟩ := List.length_eq_one_iff.mp hl
  exact ⟨_, (pss_cons (ps_expr (pe_xinitC xb_value (by rfl) T.g_NetworkError T.n_NetworkError.ga T.n_NetworkError.rd T.n_NetworkError.fi rfl (pa_cons (pv 0) (pa_cons pe_str pa_nil))))
      (pss_one (ps_xset (pv 0) (pv 1)))), init1 xb_value (T.xV "InvalidNumber" (by decide)) (T.nf "InvalidNumber" (by decide) "number" (by decide)) ea k⟩
theorem Txt.kb_InvalidNumber (T : Txt K mg) : KBn K (mD K "InvalidNumber" "__init__") ["self", "number"] 1 ["number"] (fun us ws => us ++ ws) (fun vs zs => vs ++ zs) :=
  fun_kb (ks := ["number"]) T.F_InvalidNumber___init 1 (fun us ws => us ++ ws) (fun r1 r2 => r1.append r2) fun _ _ _ _ _ _ us ws l1 l2 => match us, ws, l1, l2 with | [_], [_], _, _ => rfl
theorem Txt.X_InvalidNumber (T : Txt K mg) : Xc K "ValueError.__new__" tlV (fA K "InvalidNumber") (mA K "InvalidNumber" "__init__") := T.xV "InvalidNumber" (by decide)
theorem ok_WidthMismatch_init (T : Txt K mg) : FnOk P w K mg base (L2.CX P w) 1 (mA K "WidthMismatch" "__init__") (mD K "WidthMismatch" "__init__") ["self", "first", "second"] (spI (fA K "WidthMismatch") 2 (fldsOf ["first", "second"])) := by
  refine T.F_WidthMismatch___init.okX sc_WidthMismatch___init (fun vs H Q E h => spI_len vs H Q E h) (fun cdv A outer s H vs Q E hr h => ?_)
  obtain ⟨a, ys, rfl, hl, ea, k⟩ := h
  obtain ⟨y, z, rfl⟩ : ∃ y z, ys = [y, z] := match ys, hl with | [y, z], _ => ⟨y, z, rfl⟩
  exact ⟨_, (pss_cons (ps_expr (pe_xinitC xb_value (by rfl) T.g_NetworkError T.n_NetworkError.ga T.n_NetworkError.rd T.n_NetworkError.fi rfl (pa_cons (pv 0) (pa_cons pe_str pa_nil))))
      (pss_cons (ps_xset (pv 0) (pv 1))
      (pss_one (ps_xset (pv 0) (pv 2))))), init2 xb_value (T.xV "WidthMismatch" (by decide)) (T.nf "WidthMismatch" (by decide) "first" (by decide)) (T.nf "WidthMismatch" (by decide) "second" (by decide)) ea k⟩
theorem Txt.kb_WidthMismatch (T : Txt K mg) : KBn K (mD K "WidthMismatch" "__init__") ["self", "first", "second"] 1 ["second", "first"] (fun us ws => us ++ ws.reverse) (fun vs zs => vs ++ zs.reverse) :=
  fun_kb (ks := ["second", "first"]) T.F_WidthMismatch___init 1 (fun us ws => us ++ ws.reverse) (fun r1 r2 => r1.append r2.reverse) fun _ _ _ _ _ _ us ws l1 l2 => match us, ws, l1, l2 with | [_], [_, _], _, _ => rfl
theorem Txt.X_WidthMismatch (T : Txt K mg) : Xc K "ValueError.__new__" tlV (fA K "WidthMismatch") (mA K "WidthMismatch" "__init__") := T.xV "WidthMismatch" (by decide)
theorem ok_NotEquivalent_init (T : Txt K mg) : FnOk P w K mg base (L2.CX P w) 1 (mA K "NotEquivalent" "__init__") (mD K "NotEquivalent" "__init__") ["self", "bits"] (spI (fA K "NotEquivalent") 1 (fldsOf ["bits"])) := by
  refine T.F_NotEquivalent___init.okX sc_NotEquivalent___init (fun vs H Q E h => spI_len vs H Q E h) (fun cdv A outer s H vs Q E hr h => ?_)
  obtain ⟨a, ys, rfl, hl, ea, k⟩ := h
  obtain ⟨y, rfl⟩ := List.length_eq_one_iff.mp hl
  exact ⟨_, (pss_cons (ps_expr (pe_xinitC xb_value (by rfl) T.g_NetworkError T.n_NetworkError.ga T.n_NetworkError.rd T.n_NetworkError.fi rfl (pa_cons (pv 0) (pa_cons pe_str pa_nil))))
      (pss_one (ps_xset (pv 0) (pv 1)))), init1 xb_value (T.xV "NotEquivalent" (by decide)) (T.nf "NotEquivalent" (by decide) "bits" (by decide)) ea k⟩
theorem Txt.kb_NotEquivalent (T : Txt K mg) : KBn K (mD K "NotEquivalent" "__init__") ["self", "bits"] 1 ["bits"] (fun us ws => us ++ ws) (fun vs zs => vs ++ zs) :=
  fun_kb (ks := ["bits"]) T.F_NotEquivalent___init 1 (fun us ws => us ++ ws) (fun r1 r2 => r1.append r2) fun _ _ _ _ _ _ us ws l1 l2 => match us, ws, l1, l2 with | [_], [_], _, _ => rfl
theorem Txt.X_NotEquivalent (T : Txt K mg) : Xc K "ValueError.__new__" tlV (fA K "NotEquivalent") (mA K "NotEquivalent" "__init__") := T.xV "NotEquivalent" (by decide)
theorem ok_LimitExceeded_init (T : Txt K mg) : FnOk P w K mg base (L2.CX P w) 1 (mA K "LimitExceeded" "__init__") (mD K "LimitExceeded" "__init__") ["self", "count"] (spI (fA K "LimitExceeded") 1 (fldsOf ["count"])) := by
  refine T.F_LimitExceeded___init.okX sc_LimitExceeded___init (fun vs H Q E h => spI_len vs H Q E h) (fun cdv A outer s H vs Q E hr h => ?_)
  obtain ⟨a, ys, rfl, hl, ea, k⟩ := h
  obtain ⟨y, rfl⟩ := List.length_eq_one_iff.mp hl
  exact ⟨_, (pss_cons (ps_expr (pe_xinitC xb_value (by rfl) T.g_NetworkError T.n_NetworkError.ga T.n_NetworkError.rd T.n_NetworkError.fi rfl (pa_cons (pv 0) (pa_cons pe_str pa_nil))))
      (pss_one (ps_xset (pv 0) (pv 1)))), init1 xb_value (T.xV "LimitExceeded" (by decide)) (T.nf "LimitExceeded" (by decide) "count" (by decide)) ea k⟩
theorem Txt.kb_LimitExceeded (T : Txt K mg) : KBn K (mD K "LimitExceeded" "__init__") ["self", "count"] 1 ["count"] (fun us ws => us ++ ws) (fun vs zs => vs ++ zs) :=
  fun_kb (ks := ["count"]) T.F_LimitExceeded___init 1 (fun us ws => us ++ ws) (fun r1 r2 => r1.append r2) fun _ _ _ _ _ _ us ws l1 l2 => match us, ws, l1, l2 with | [_], [_], _, _ => rfl
theorem Txt.X_LimitExceeded (T : Txt K mg) : Xc K "ValueError.__new__" tlV (fA K "LimitExceeded") (mA K "LimitExceeded" "__init__") := T.xV "LimitExceeded" (by decide)
theorem ok_ParseError_init (T : Txt K mg) : FnOk P w K mg base (L2.CX P w) 1 (mA K "ParseError" "__init__") (mD K "ParseError" "__init__") ["self", "index"] (spI (fA K "ParseError") 1 (fldsOf ["index"])) := by
  refine T.F_ParseError___init.okX sc_ParseError___init (fun vs H Q E h => spI_len vs H Q E h) (fun cdv A outer s H vs Q E hr h => ?_)
  obtain ⟨a, ys, rfl, hl, ea, k⟩ := h
  obtain ⟨y, rfl⟩ := List.length_eq_one_iff.mp hl
  exact ⟨_, (pss_cons (ps_expr (pe_xinitC xb_value (by rfl) T.g_NetworkError T.n_NetworkError.ga T.n_NetworkError.rd T.n_NetworkError.fi rfl (pa_cons (pv 0) (pa_cons pe_str pa_nil))))
      (pss_one (ps_xset (pv 0) (pv 1)))), init1 xb_value (T.xV "ParseError" (by decide)) (T.nf "ParseError" (by decide) "index" (by decide)) ea k⟩
theorem Txt.kb_ParseError (T : Txt K mg) : KBn K (mD K "ParseError" "__init__") ["self", "index"] 1 ["index"] (fun us ws => us ++ ws) (fun vs zs => vs ++ zs) :=
  fun_kb (ks := ["index"]) T.F_ParseError___init 1 (fun us ws => us ++ ws) (fun r1 r2 => r1.append r2) fun _ _ _ _ _ _ us ws l1 l2 => match us, ws, l1, l2 with | [_], [_], _, _ => rfl
theorem Txt.X_ParseError (T : Txt K mg) : Xc K "ValueError.__new__" tlV (fA K "ParseError") (mA K "ParseError" "__init__") := T.xV "ParseError" (by decide)
theorem ok_InvalidCommand_init (T : Txt K mg) : FnOk P w K mg base (L2.CX P w) 1 (mA K "InvalidCommand" "__init__") (mD K "InvalidCommand" "__init__") ["self", "text"] (spI (fA K "InvalidCommand") 1 (fldsOf ["text"])) := by
  refine T.F_InvalidCommand___init.okX sc_InvalidCommand___init (fun vs H Q E h => spI_len vs H Q E h) (fun cdv A outer s H vs Q E hr h => ?_)
  obtain ⟨a, ys, rfl, hl, ea, k⟩ := h
  obtain ⟨y, rfl⟩ := List.length_eq_one_iff.mp hl
  exact ⟨_, (pss_cons (ps_expr (pe_xinitC xb_value (by rfl) T.g_NetworkError T.n_NetworkError.ga T.n_NetworkError.rd T.n_NetworkError.fi rfl (pa_cons (pv 0) (pa_cons pe_str pa_nil))))
      (pss_one (ps_xset (pv 0) (pv 1)))), init1 xb_value (T.xV "InvalidCommand" (by decide)) (T.nf "InvalidCommand" (by decide) "text" (by decide)) ea k⟩
theorem Txt.kb_InvalidCommand (T : Txt K mg) : KBn K (mD K "InvalidCommand" "__init__") ["self", "text"] 1 ["text"] (fun us ws => us ++ ws) (fun vs zs => vs ++ zs) :=
  fun_kb (ks := ["text"]) T.F_InvalidCommand___init 1 (fun us ws => us ++ ws) (fun r1 r2 => r1.append r2) fun _ _ _ _ _ _ us ws l1 l2 => match us, ws, l1, l2 with | [_], [_], _, _ => rfl
theorem Txt.X_InvalidCommand (T : Txt K mg) : Xc K "ValueError.__new__" tlV (fA K "InvalidCommand") (mA K "InvalidCommand" "__init__") := T.xV "InvalidCommand" (by decide)
theorem ok_InvalidChange_init (T : Txt K mg) : FnOk P w K mg base (L2.CX P w) 1 (mA K "InvalidChange" "__init__") (mD K "InvalidChange" "__init__") ["self", "index"] (spI (fA K "InvalidChange") 1 (fldsOf ["index"])) := by
  refine T.F_InvalidChange___init.okX sc_InvalidChange___init (fun vs H Q E h => spI_len vs H Q E h) (fun cdv A outer s H vs Q E hr h => ?_)
  obtain ⟨a, ys, rfl, hl, ea, k⟩ := h
  obtain ⟨y, rfl⟩ := List.length_eq_one_iff.mp hl
  exact ⟨_, (pss_cons (ps_expr (pe_xinitC xb_value (by rfl) T.g_NetworkError T.n_NetworkError.ga T.n_NetworkError.rd T.n_NetworkError.fi rfl (pa_cons (pv 0) (pa_cons pe_str pa_nil))))
      (pss_one (ps_xset (pv 0) (pv 1)))), init1 xb_value (T.xV "InvalidChange" (by decide)) (T.nf "InvalidChange" (by decide) "index" (by decide)) ea k⟩
theorem Txt.kb_InvalidChange (T : Txt K mg) : KBn K (mD K "InvalidChange" "__init__") ["self", "index"] 1 ["index"] (fun us ws => us ++ ws) (fun vs zs => vs ++ zs) :=
  fun_kb (ks := ["index"]) T.F_InvalidChange___init 1 (fun us ws => us ++ ws) (fun r1 r2 => r1.append r2) fun _ _ _ _ _ _ us ws l1 l2 => match us, ws, l1, l2 with | [_], [_], _, _ => rfl
theorem Txt.X_InvalidChange (T : Txt K mg) : Xc K "ValueError.__new__" tlV (fA K "InvalidChange") (mA K "InvalidChange" "__init__") := T.xV "InvalidChange" (by decide)
theorem ok_NothingToUndo_init (T : Txt K mg) : FnOk P w K mg base (L2.CX P w) 1 (mA K "NothingToUndo" "__init__") (mD K "NothingToUndo" "__init__") ["self", "count"] (spI (fA K "NothingToUndo") 1 (fldsOf ["count"])) := by
  refine T.F_NothingToUndo___init.okX sc_NothingToUndo___init (fun vs H Q E h => spI_len vs H Q E h) (fun cdv A outer s H vs Q E hr h => ?_)
  obtain ⟨a, ys, rfl, hl, ea, k⟩ := h
  obtain ⟨y, rfl⟩ := List.length_eq_one_iff.mp hl
  exact ⟨_, (pss_cons (ps_expr (pe_xinitC xb_value (by rfl) T.g_NetworkError T.n_NetworkError.ga T.n_NetworkError.rd T.n_NetworkError.fi rfl (pa_cons (pv 0) (pa_cons pe_str pa_nil))))
      (pss_one (ps_xset (pv 0) (pv 1)))), init1 xb_value (T.xV "NothingToUndo" (by decide)) (T.nf "NothingToUndo" (by decide) "count" (by decide)) ea k⟩
theorem Txt.kb_NothingToUndo (T : Txt K mg) : KBn K (mD K "NothingToUndo" "__init__") ["self", "count"] 1 ["count"] (fun us ws => us ++ ws) (fun vs zs => vs ++ zs) :=
  fun_kb (ks := ["count"]) T.F_NothingToUndo___init 1 (fun us ws => us ++ ws) (fun r1 r2 => r1.append r2) fun _ _ _ _ _ _ us ws l1 l2 => match us, ws, l1, l2 with | [_], [_], _, _ => rfl
theorem Txt.X_NothingToUndo (T : Txt K mg) : Xc K "ValueError.__new__" tlV (fA K "NothingToUndo") (mA K "NothingToUndo" "__init__") := T.xV "NothingToUndo" (by decide)
theorem ok_UnknownName_init (T : Txt K mg) : FnOk P w K mg base (L2.CX P w) 1 (mA K "UnknownName" "__init__") (mD K "UnknownName" "__init__") ["self", "name"] (spI (fA K "UnknownName") 1 (fldsOf ["name"])) := by
  refine T.F_UnknownName___init.okX sc_UnknownName___init (fun vs H Q E h => spI_len vs H Q E h) (fun cdv A outer s H vs Q E hr h => ?_)
  obtain ⟨a, ys, rfl, hl, ea, k⟩ := h
  obtain ⟨y, rfl⟩ := List.length_eq_one_iff.mp hl
  exact ⟨_, (pss_cons (ps_expr (pe_xinitB xb_lookup (by rfl) T.z_LookupError PyProof.Rows.Boot.«LookupError» typ_LE (by decide +kernel) T.fi_LookupError rfl (pa_cons (pv 0) (pa_cons pe_str pa_nil))))
      (pss_one (ps_xset (pv 0) (pv 1)))), init1 xb_lookup T.xL (T.nf "UnknownName" (by decide) "name" (by decide)) ea k⟩
theorem Txt.kb_UnknownName (T : Txt K mg) : KBn K (mD K "UnknownName" "__init__") ["self", "name"] 1 ["name"] (fun us ws => us ++ ws) (fun vs zs => vs ++ zs) :=
  fun_kb (ks := ["name"]) T.F_UnknownName___init 1 (fun us ws => us ++ ws) (fun r1 r2 => r1.append r2) fun _ _ _ _ _ _ us ws l1 l2 => match us, ws, l1, l2 with | [_], [_], _, _ => rfl
theorem Txt.X_UnknownName (T : Txt K mg) : Xc K "LookupError.__new__" tlL (fA K "UnknownName") (mA K "UnknownName" "__init__") := T.xL
end
end NS

set_option Elab.async false
set_option linter.all false
set_option maxRecDepth 100000
set_option maxHeartbeats 4000000
namespace NS
open PySem PySem.Spec PyProof.Rows L2 GX
/-! ### the steps that every reading asks -/
/-- what stands at an address -/
local macro_rules | `(tactic| walk_at "hk") => `(tactic| first
  | assumption
  | exact upd_same
  | (refine Eq.trans (upd_ne ?hkne) ?hkr; (case hkne => walk_at "ne"); (case hkr => walk_at "hk")))
/-- two addresses differ -/
local macro_rules | `(tactic| walk_at "ne") => `(tactic| first
  | assumption
  | (apply Ne.symm; assumption)
  | (refine ne_of_none (H := ?nH) (o := ?nO) ?nea ?neb; (case neb => assumption); (case nea => walk_at "hk"))
  | (refine Ne.symm (ne_of_none (H := ?nH) (o := ?nO) ?nea ?neb); (case neb => assumption); (case nea => walk_at "hk")))
local macro_rules | `(tactic| walk_at "sq") => `(tactic| first
  | assumption
  | (refine SqL.of ?sqh; walk_at "hk")
  | (refine SqT.of ?sqh; walk_at "hk"))
local macro_rules | `(tactic| walk_at "ix") => `(tactic| first | exact rfl | assumption)
/-- a condition of an operator -/
local macro_rules | `(tactic| walk_at "op") => `(tactic| first
  | exact pos_lit (by decide)
  | exact div_lit (by decide)
  | exact divW_of (by first | assumption | omega) (by first | assumption | omega)
  | (show (0 : Int) < _; first | assumption | omega)
  | (show (_ ∧ _) ∨ (_ ∧ _); first | exact .inl ⟨by omega, by omega⟩ | exact .inr ⟨by omega, by omega⟩))
/-- one leaf -/
local macro_rules | `(tactic| walk_at "go1") => `(tactic| first
  | (refine ⟨_, rfl, ?_⟩)
  | (refine ⟨_, _, rfl, rfl, ?gop, ?_⟩; (case gop => walk_at "op"))
  | (refine ⟨_, _, rfl, rfl, ?_⟩)
  | (refine ⟨_, ?goxs, _, ?gov, rfl, rfl, ?gosq, ?goix, ?_⟩; (case gosq => walk_at "sq"); (case goix => walk_at "ix"))
  | (refine ⟨_, ?goxs, _, ?goj, rfl, rfl, ?gohk, ?goix, ?_⟩; (case gohk => walk_at "hk"); (case goix => walk_at "ix")))
local macro_rules | `(tactic| walk_at "go") => `(tactic| repeat walk_at "go1")

/-! ### the script's choices -/
/-- the list of choices stands at a -/
def Src (a : Addr) (H : Hp) : Prop := ∃ x y : Int, H a = some (.lst [.int x, .int y]) ∧ 0 ≤ x ∧ 0 ≤ y ∧ y < 2147483647
/-- all but a is as it was -/
def But (a : Addr) (H H' : Hp) : Prop := ∀ b, b ≠ a → H' b = H b
def spDraw : Sp := fun vs H Q _ => ∃ (a : Addr) (m : Int), vs = [.ref a, .int m] ∧ Src a H ∧ 0 < m ∧ m < 2 ^ 100 ∧ ∀ (r : Int) H', 0 ≤ r → r < m → Src a H' → But a H H' → Q (.int r) H'
/-- what was tracked stays -/
def Keeps (H H' : Hp) : Prop := ∀ b u, H b = some u → H' b = some u
def spSource (K : PySem.W.Frag) : Sp := fun vs H Q _ => ∃ (a : Addr) (ns : List Int) (k : Int), vs = [.ref a, .int k] ∧ SqL K H a (ns.map V.int) ∧ ns.length ≤ 63 ∧ 0 ≤ k ∧ k < 100 ∧ ∀ H' p, Keeps H H' → H p = none → Src p H' → Q (.ref p) H'
section
variable {P : Program} {w : World} {K : PySem.W.Frag} {mg : Str → Option Value} {base : Heap}
theorem ok_law_draw (T : Txt K mg) : FnOk P w K mg base (L2.CX P w) 1 (fA K "_law_draw") (fD K "_law_draw") ["_law_source_here", "_law_many"] spDraw := by
  refine T.F_law_draw.okX sc_law_draw (fun vs H Q E h => ?_) (fun cdv A outer s H vs Q E hr h => ?_)
  · obtain ⟨a, m, rfl, _⟩ := h
    rfl
  · obtain ⟨a, m, rfl, ⟨x, y, ha, hx, hy, hy2⟩, hm, hm2, k⟩ := h
    refine ⟨_, (pss_cons (ps_if (pt_cmpR op_gt (pe_ix ix_list (pv 0) pe_int (fun _ _ => rfl)) pe_int (nomark _)) (pss_cons (ps_set (i := 2) sc_law_draw.nd rfl (by first | exact Or.inl rfl | exact Or.inr rfl) (pe_op op_mod (pe_ix ix_list (pv 0) pe_int (fun _ _ => rfl)) (pv 1)))
      (pss_cons (ps_asg (pe_op op_fdivW (pe_ix ix_list (pv 0) pe_int (fun _ _ => rfl)) (pv 1)) (pg_sub (pv 0) pe_int set_list))
      (pss_one (ps_ret (pv 2))))) pss_nil)
      (pss_cons (ps_asg (pe_op op_mod (pe_op op_add (pe_op op_mul (pe_ix ix_list (pv 0) pe_int (fun _ _ => rfl)) pe_int) pe_int) pe_int) (pg_sub (pv 0) pe_int set_list))
      (pss_one (ps_ret (pe_op op_mod (pe_op op_fdiv (pe_op op_mod (pe_op op_mul (pe_ix ix_list (pv 0) pe_int (fun _ _ => rfl)) (pe_ix ix_list (pv 0) pe_int (fun _ _ => rfl))) pe_int) pe_int) (pv 1)))))), ?_⟩
    have h1 := Int.emod_nonneg (y * 48271 + 11) (by decide : (2147483647 : Int) ≠ 0)
    have h2 := Int.emod_lt_of_pos (y * 48271 + 11) (by decide : (0 : Int) < 2147483647)
    walk_at "go"
    refine ite2 (fun e => ?_) (fun e => ?_)
    · walk_at "go"
      exact k _ _ (Int.emod_nonneg _ (by omega)) (Int.emod_lt_of_pos _ hm) ⟨_, _, upd_same, Int.ediv_nonneg hx (by omega), hy, hy2⟩ (fun b hb => upd_ne hb)
    · walk_at "go"
      exact k _ _ (Int.emod_nonneg _ (by omega)) (Int.emod_lt_of_pos _ hm) ⟨_, _, upd_same, hx, h1, h2⟩ (fun b hb => upd_ne hb)
theorem sqL_keep {H H' : Hp} {a : Addr} {xs : List V} (h : SqL K H a xs) (e : Keeps H H') : SqL K H' a xs :=
  h.elim (fun h => .inl (h.elim (fun h => .inl (e _ _ h)) fun ⟨o, h⟩ => .inr ⟨o, e _ _ h⟩)) fun h => .inr h
theorem cut63 {ns : List Int} (h : ns.length ≤ 63) : cutV (ns.map V.int) none (some 63) = ns.map V.int := by
  unfold cutV
  rw [HT.sIx_none, List.drop_zero, show HT.sIx (ns.map V.int).length (ns.map V.int).length (some 63) = ns.length from by
    rw [show (63 : Int) = ((63 : Nat) : Int) from rfl, HT.sIx_nat, List.length_map]; omega]
  exact List.take_of_length_le (by rw [List.length_map]; omega)
theorem atI_nat {xs : List V} {i : Int} {v : V} (hi : 0 ≤ i) (h : xs[i.toNat]? = some v) : atI xs i = some v := by
  have hl : i.toNat < xs.length := (List.getElem?_eq_some_iff.mp h).1
  unfold atI ixN
  rw [if_pos hi, if_pos (by omega)]
  exact h
theorem powB : CPow 10 18 := ⟨by decide, by decide, by decide⟩
theorem mulB {i : Int} (b : Bool) : CMul i (if b = true then 1 else 0) := .inr (by cases b <;> decide)
theorem mul31 {i j : Int} (h : 0 ≤ i ∧ i < 2147483647) : CMul i j := .inl ⟨by omega, by omega⟩
theorem modB (x : Int) : 0 ≤ x % 2147483647 ∧ x % 2147483647 < 2147483647 := ⟨Int.emod_nonneg _ (by decide), Int.emod_lt_of_pos _ (by decide)⟩
theorem two_line : 2 ≤ sizeLine := by decide
theorem ok_law_source (T : Txt K mg) : FnOk P w K mg base (L2.CX P w) 1 (fA K "_law_source") (fD K "_law_source") ["_law_script", "_law_k"] (spSource K) := by
  refine T.F_law_source.okX sc_law_source (fun vs H Q E h => ?_) (fun cdv A outer s H vs Q E hr h => ?_)
  · obtain ⟨a, ns, k, rfl, _⟩ := h
    rfl
  · obtain ⟨a, ns, k, rfl, hS, hl, hk, hk2, kk⟩ := h
    refine ⟨_, (pss_cons (ps_set (i := 2) sc_law_source.nd rfl (by first | exact Or.inl rfl | exact Or.inr rfl) (pe_op op_add (pe_op op_mul pe_int (pe_callB (cr_sum rfl) (by rfl) T.z_sum (by decide +kernel) (pa_cons (pe_slice sl_list (pv 0) po_none (po_some pe_int)) pa_nil))) (pv 1)))
      (pss_cons (ps_if (pt_cmpR op_lt (pv 1) (pe_callB call_len_seq (by rfl) T.z_len PySem.boot_len (pa_cons (pv 0) pa_nil)) (nomark _)) (pss_one (ps_set (i := 2) sc_law_source.nd rfl (by first | exact Or.inl rfl | exact Or.inr rfl) (pe_ix ix_list (pv 0) (pv 1) (fun _ _ => rfl)))) pss_nil)
      (pss_cons (ps_set (i := 3) sc_law_source.nd rfl (by first | exact Or.inl rfl | exact Or.inr rfl) (pe_callB call_abs (by rfl) T.z_abs (by decide +kernel) (pa_cons (pv 2) pa_nil)))
      (pss_cons (ps_set (i := 4) sc_law_source.nd rfl (by first | exact Or.inl rfl | exact Or.inr rfl) (pe_op op_mod (pe_op op_mul (pe_op op_add (pe_op op_add (pe_op op_add (pe_op op_mod (pv 3) pe_int) (pe_op op_mul (pe_op op_mul pe_int (pv 1)) (pv 1))) (pe_op op_mul pe_int (pv 1))) pe_int) pe_int) pe_int))
      (pss_one (ps_ret (pe_lst (pa_cons (pe_op op_mul (pv 3) (pe_callTy call_int1 (by rfl) T.z_int PyProof.Rows.boot_int (pa_cons (pe_cmpR op_ge (pv 3) (pe_op op_pow pe_int pe_int) (nomark _)) pa_nil))) (pa_cons (pe_op op_mod (pe_op op_mul (pv 4) (pv 4)) pe_int) pa_nil))))))))), ?_⟩
    walk_at "go"
    refine ⟨a, ns.map V.int, rfl, hS, fun p hp => ?_⟩
    have hS1 : SqL K (upd H p (.lst (cutV (ns.map V.int) none (some 63)))) a (ns.map V.int) := sqL_keep hS fun b u e => (upd_ne (ne_of_none e hp)).trans e
    refine ⟨p, ns, rfl, SqL.of (by rw [cut63 hl]; exact upd_same), ?_⟩
    walk_at "go"
    have h9 : ∀ c : Int, 0 ≤ (if c < 0 then -c else c) := fun c => by split <;> omega
    refine ⟨a, ns.map V.int, rfl, .inl hS1, ?_⟩
    walk_at "go"
    refine ite2 (fun e => ?_) (fun e => ?_)
    · have e' : k < (ns.map V.int).length := of_decide_eq_true e
      rw [List.length_map] at e'
      obtain ⟨c, hc⟩ : ∃ c, ns[k.toNat]? = some c := ⟨_, List.getElem?_eq_getElem (by omega)⟩
      refine ⟨_, rfl, _, rfl, a, ns.map V.int, k, .int c, rfl, rfl, hS1, atI_nat hk (by rw [List.getElem?_map, hc]; rfl), ?_⟩
      walk_at "go"
      have hz := h9 c
      generalize (if c < 0 then -c else c) = z at hz ⊢
      refine ⟨powB, ?_⟩
      walk_at "go"
      refine .inr ⟨_, rfl, ?_⟩
      refine ⟨_, _, rfl, rfl, mulB _, ?_⟩
      walk_at "go"
      refine ⟨two_line, fun q hq => ?_⟩
      refine kk _ _ (fun b u e => (upd_ne (ne_of_none ((upd_ne (ne_of_none e hp)).trans e) hq)).trans ((upd_ne (ne_of_none e hp)).trans e)) (NdefX.upd_none hq) ⟨_, _, upd_same, ?_, Int.emod_nonneg _ (by decide), by have := Int.emod_lt_of_pos ((z % 2147483629 + 7919 * k * k + 31 * k + 17) * 48271 % 2147483647 * ((z % 2147483629 + 7919 * k * k + 31 * k + 17) * 48271 % 2147483647)) (by decide : (0 : Int) < 2147483629); omega⟩
      exact Int.mul_nonneg hz (by split <;> decide)
    · walk_at "go"
      have hz := h9 (7 * ns.sum + k)
      generalize (if 7 * ns.sum + k < 0 then -(7 * ns.sum + k) else 7 * ns.sum + k) = z at hz ⊢
      refine ⟨powB, ?_⟩
      walk_at "go"
      refine .inr ⟨_, rfl, ?_⟩
      refine ⟨_, _, rfl, rfl, mulB _, ?_⟩
      walk_at "go"
      refine ⟨two_line, fun q hq => ?_⟩
      refine kk _ _ (fun b u e => (upd_ne (ne_of_none ((upd_ne (ne_of_none e hp)).trans e) hq)).trans ((upd_ne (ne_of_none e hp)).trans e)) (NdefX.upd_none hq) ⟨_, _, upd_same, ?_, Int.emod_nonneg _ (by decide), by have := Int.emod_lt_of_pos ((z % 2147483629 + 7919 * k * k + 31 * k + 17) * 48271 % 2147483647 * ((z % 2147483629 + 7919 * k * k + 31 * k + 17) * 48271 % 2147483647)) (by decide : (0 : Int) < 2147483629); omega⟩
      exact Int.mul_nonneg hz (by split <;> decide)
end

end NS

set_option Elab.async false
set_option linter.all false
set_option maxRecDepth 100000
set_option maxHeartbeats 4000000
namespace NS
open PySem PySem.Spec PyProof.Rows L2 GX
/-! ### the steps that every reading asks -/
/-- what stands at an address -/
local macro_rules | `(tactic| walk_at "hk") => `(tactic| first
  | assumption
  | exact upd_same
  | (refine Eq.trans (upd_ne ?hkne) ?hkr; (case hkne => walk_at "ne"); (case hkr => walk_at "hk")))
/-- two addresses differ -/
local macro_rules | `(tactic| walk_at "ne") => `(tactic| first
  | assumption
  | (apply Ne.symm; assumption)
  | (refine ne_of_none (H := ?nH) (o := ?nO) ?nea ?neb; (case neb => assumption); (case nea => walk_at "hk"))
  | (refine Ne.symm (ne_of_none (H := ?nH) (o := ?nO) ?nea ?neb); (case neb => assumption); (case nea => walk_at "hk")))
local macro_rules | `(tactic| walk_at "sq") => `(tactic| first
  | assumption
  | (refine SqL.of ?sqh; walk_at "hk")
  | (refine SqT.of ?sqh; walk_at "hk"))
local macro_rules | `(tactic| walk_at "ix") => `(tactic| first | exact rfl | assumption)
/-- a condition of an operator -/
local macro_rules | `(tactic| walk_at "op") => `(tactic| first
  | exact pos_lit (by decide)
  | exact div_lit (by decide)
  | exact divW_of (by first | assumption | omega) (by first | assumption | omega)
  | (show (0 : Int) < _; first | assumption | omega)
  | (show (_ ∧ _) ∨ (_ ∧ _); first | exact .inl ⟨by omega, by omega⟩ | exact .inr ⟨by omega, by omega⟩))
/-- one leaf -/
local macro_rules | `(tactic| walk_at "go1") => `(tactic| first
  | (refine ⟨_, rfl, ?_⟩)
  | (refine ⟨_, _, rfl, rfl, ?gop, ?_⟩; (case gop => walk_at "op"))
  | (refine ⟨_, _, rfl, rfl, ?_⟩)
  | (refine ⟨_, ?goxs, _, ?gov, rfl, rfl, ?gosq, ?goix, ?_⟩; (case gosq => walk_at "sq"); (case goix => walk_at "ix"))
  | (refine ⟨_, ?goxs, _, ?goj, rfl, rfl, ?gohk, ?goix, ?_⟩; (case gohk => walk_at "hk"); (case goix => walk_at "ix")))
local macro_rules | `(tactic| walk_at "go") => `(tactic| repeat walk_at "go1")

theorem xo_upd {H : Hp} {a C p : Addr} {fs : List (Str × V)} {o : HO} (h : XO H a C fs) (hp : H p = none) : XO (upd H p o) a C fs := by
  obtain ⟨dx, e1, e2⟩ := h
  exact ⟨dx, (upd_ne (ne_of_none e1 hp)).trans e1, (upd_ne (ne_of_none e2 hp)).trans e2⟩
theorem Keeps.upd {H H' : Hp} {p : Addr} {o : HO} (h : Keeps H H') (hp : H' p = none) : Keeps H (L2.upd H' p o) := fun b u e => (upd_ne (ne_of_none (h b u e) hp)).trans (h b u e)
theorem Keeps.refl (H : Hp) : Keeps H H := fun _ _ e => e
theorem Txt.xcc {K : PySem.W.Frag} {mg : Str → Option Value} (T : Txt K mg) {x : Str} (hx : x ∈ exs) : Xcc K (fA K x) (mA K x "__init__") := by
  by_cases h : x ∈ exV
  · exact ⟨_, _, _, _, xb_value, T.xV x h⟩
  · have e : x = "UnknownName" := by
      rcases List.mem_append.mp hx with z | z
      · exact absurd z h
      · exact List.mem_singleton.mp z
    subst e
    exact ⟨_, _, _, _, xb_lookup, T.xL⟩
theorem len_line {n : Nat} (h : n ≤ 100) : n ≤ sizeLine := by rw [sizeLine_eq]; omega
def spClasses (K : PySem.W.Frag) : Sp := fun vs H Q _ => ∃ (a : Addr) (x : Str) (fs : List (Str × V)), vs = [.ref a] ∧ x ∈ exs ∧ XO H a (fA K x) fs ∧ ∀ H' p, Keeps H H' → H' p = some (.lst (exs.map fun y => .bl (x == y))) → Q (.ref p) H'
/-- amid _law_classes -/
structure Clx (K : PySem.W.Frag) (H0 : Hp) (a : Addr) (x : Str) (fs : List (Str × V)) (xs : List V) (σ : L2.St) (H : Hp) : Prop where
  s0 : σ[0]? = some (some (.ref a))
  s1 : ∃ l, σ[1]? = some (some (.ref l)) ∧ H l = some (.lst xs)
  xo : XO H a (fA K x) fs
  kp : Keeps H0 H
section
variable {K : PySem.W.Frag} {mg : Str → Option Value} {H0 H : Hp} {a : Addr} {x A B C : Str} {fs : List (Str × V)} {xs : List V} {σ : L2.St} {D : Ends} {t : TS}
abbrev tIsx (K : PySem.W.Frag) (A : Str) : TE := tCB (rIsX K) (tCons (tVar 0) (tCons (tC (.ref (fA K A))) tNil))
theorem isx_do (T : Txt K mg) (hx : x ∈ exs) (hA : A ∈ exs) (h0 : σ[0]? = some (some (.ref a))) (xo : XO H a (fA K x) fs) {Q : VK} (k : Q (.bl (x == A)) H) : tIsx K A σ H Q :=
  ⟨_, h0, a, fA K x, mA K x "__init__", fs, _, _, _, rfl, .own _, T.xcc hx, xo, T.is_ x hx A hA, k⟩
theorem isx_two (T : Txt K mg) (hx : x ∈ exs) (hA : A ∈ exs) (hB : B ∈ exs) (h0 : σ[0]? = some (some (.ref a))) (xo : XO H a (fA K x) fs) {Q : VK} (k : ∀ p, H p = none → Q (.ref p) (upd H p (.lst [.bl (x == A), .bl (x == B)]))) : tLst (tCons (tIsx K A) (tCons (tIsx K B) tNil)) σ H Q :=
  isx_do T hx hA h0 xo (isx_do T hx hB h0 xo ⟨len_line (by decide : 2 ≤ 100), k⟩)
theorem cl_cat (T : Txt K mg) (hx : x ∈ exs) (hA : A ∈ exs) (hB : B ∈ exs) (c : Clx K H0 a x fs xs σ H) (hl : xs.length ≤ 90) {Q : VK} (k : ∀ p H', Clx K H0 a x fs xs σ H' → H' p = none → Q (.ref p) (upd H' p (.lst (xs ++ [.bl (x == A), .bl (x == B)])))) : tOp rCat (tVar 1) (tLst (tCons (tIsx K A) (tCons (tIsx K B) tNil))) σ H Q := by
  obtain ⟨l, h1, hL⟩ := c.s1
  refine ⟨_, h1, isx_two T hx hA hB c.s0 c.xo fun p hp => ⟨l, p, xs, _, rfl, rfl, (upd_ne (ne_of_none hL hp)).trans hL, upd_same, len_line (by show xs.length + 2 ≤ 100; omega), fun q hq => ?_⟩⟩
  exact k q _ ⟨c.s0, ⟨l, h1, (upd_ne (ne_of_none hL hp)).trans hL⟩, xo_upd c.xo hp, c.kp.upd hp⟩ hq
theorem cl_step (T : Txt K mg) (hx : x ∈ exs) (hA : A ∈ exs) (hB : B ∈ exs) (c : Clx K H0 a x fs xs σ H) (hl : xs.length ≤ 90) (hσ : 1 < σ.length) (k : ∀ σ' H', σ'.length = σ.length → Clx K H0 a x fs (xs ++ [.bl (x == A), .bl (x == B)]) σ' H' → t D σ' H') :
    tSeq (tAsg (tOp rCat (tVar 1) (tLst (tCons (tIsx K A) (tCons (tIsx K B) tNil)))) (gName 1)) t D σ H :=
  cl_cat T hx hA hB c hl fun p H' c' hp => k _ _ (by simp) ⟨by rw [List.getElem?_set_ne (by decide)]; exact c'.s0, ⟨p, by rw [List.getElem?_set_self hσ], upd_same⟩, xo_upd c'.xo hp, c'.kp.upd hp⟩
end
section
variable {P : Program} {w : World} {K : PySem.W.Frag} {mg : Str → Option Value} {base : Heap}
theorem ok_law_classes (T : Txt K mg) : FnOk P w K mg base (L2.CX P w) 1 (fA K "_law_classes") (fD K "_law_classes") ["_law_error"] (spClasses K) := by
  refine T.F_law_classes.okX sc_law_classes (fun vs H Q E h => ?_) (fun cdv A outer s H vs Q E hr h => ?_)
  · obtain ⟨a, x, fs, rfl, _⟩ := h
    rfl
  · obtain ⟨a, x, fs, rfl, hx, hxo, k⟩ := h
    refine ⟨_, (pss_cons (ps_set (i := 1) sc_law_classes.nd rfl (by first | exact Or.inl rfl | exact Or.inr rfl) (pe_lst (pa_cons (pe_callB (call_isX T.xk) (by rfl) T.z_isinstance (by decide +kernel) (pa_cons (pv 0) (pa_cons (pe_glob (v := .ref (fA K "InvalidWidth")) rfl T.g_InvalidWidth rfl) pa_nil))) (pa_cons (pe_callB (call_isX T.xk) (by rfl) T.z_isinstance (by decide +kernel) (pa_cons (pv 0) (pa_cons (pe_glob (v := .ref (fA K "InvalidStep")) rfl T.g_InvalidStep rfl) pa_nil))) (pa_cons (pe_callB (call_isX T.xk) (by rfl) T.z_isinstance (by decide +kernel) (pa_cons (pv 0) (pa_cons (pe_glob (v := .ref (fA K "InvalidValues")) rfl T.g_InvalidValues rfl) pa_nil))) pa_nil)))))
      (pss_cons (ps_set (i := 1) sc_law_classes.nd rfl (by first | exact Or.inl rfl | exact Or.inr rfl) (pe_op op_cat (pv 1) (pe_lst (pa_cons (pe_callB (call_isX T.xk) (by rfl) T.z_isinstance (by decide +kernel) (pa_cons (pv 0) (pa_cons (pe_glob (v := .ref (fA K "InvalidIndex")) rfl T.g_InvalidIndex rfl) pa_nil))) (pa_cons (pe_callB (call_isX T.xk) (by rfl) T.z_isinstance (by decide +kernel) (pa_cons (pv 0) (pa_cons (pe_glob (v := .ref (fA K "InvalidCode")) rfl T.g_InvalidCode rfl) pa_nil))) pa_nil)))))
      (pss_cons (ps_set (i := 1) sc_law_classes.nd rfl (by first | exact Or.inl rfl | exact Or.inr rfl) (pe_op op_cat (pv 1) (pe_lst (pa_cons (pe_callB (call_isX T.xk) (by rfl) T.z_isinstance (by decide +kernel) (pa_cons (pv 0) (pa_cons (pe_glob (v := .ref (fA K "InvalidMove")) rfl T.g_InvalidMove rfl) pa_nil))) (pa_cons (pe_callB (call_isX T.xk) (by rfl) T.z_isinstance (by decide +kernel) (pa_cons (pv 0) (pa_cons (pe_glob (v := .ref (fA K "InvalidNumber")) rfl T.g_InvalidNumber rfl) pa_nil))) pa_nil)))))
      (pss_cons (ps_set (i := 1) sc_law_classes.nd rfl (by first | exact Or.inl rfl | exact Or.inr rfl) (pe_op op_cat (pv 1) (pe_lst (pa_cons (pe_callB (call_isX T.xk) (by rfl) T.z_isinstance (by decide +kernel) (pa_cons (pv 0) (pa_cons (pe_glob (v := .ref (fA K "WidthMismatch")) rfl T.g_WidthMismatch rfl) pa_nil))) (pa_cons (pe_callB (call_isX T.xk) (by rfl) T.z_isinstance (by decide +kernel) (pa_cons (pv 0) (pa_cons (pe_glob (v := .ref (fA K "NotEquivalent")) rfl T.g_NotEquivalent rfl) pa_nil))) pa_nil)))))
      (pss_cons (ps_set (i := 1) sc_law_classes.nd rfl (by first | exact Or.inl rfl | exact Or.inr rfl) (pe_op op_cat (pv 1) (pe_lst (pa_cons (pe_callB (call_isX T.xk) (by rfl) T.z_isinstance (by decide +kernel) (pa_cons (pv 0) (pa_cons (pe_glob (v := .ref (fA K "LimitExceeded")) rfl T.g_LimitExceeded rfl) pa_nil))) (pa_cons (pe_callB (call_isX T.xk) (by rfl) T.z_isinstance (by decide +kernel) (pa_cons (pv 0) (pa_cons (pe_glob (v := .ref (fA K "ParseError")) rfl T.g_ParseError rfl) pa_nil))) pa_nil)))))
      (pss_cons (ps_set (i := 1) sc_law_classes.nd rfl (by first | exact Or.inl rfl | exact Or.inr rfl) (pe_op op_cat (pv 1) (pe_lst (pa_cons (pe_callB (call_isX T.xk) (by rfl) T.z_isinstance (by decide +kernel) (pa_cons (pv 0) (pa_cons (pe_glob (v := .ref (fA K "InvalidCommand")) rfl T.g_InvalidCommand rfl) pa_nil))) (pa_cons (pe_callB (call_isX T.xk) (by rfl) T.z_isinstance (by decide +kernel) (pa_cons (pv 0) (pa_cons (pe_glob (v := .ref (fA K "InvalidChange")) rfl T.g_InvalidChange rfl) pa_nil))) pa_nil)))))
      (pss_one (ps_ret (pe_op op_cat (pv 1) (pe_lst (pa_cons (pe_callB (call_isX T.xk) (by rfl) T.z_isinstance (by decide +kernel) (pa_cons (pv 0) (pa_cons (pe_glob (v := .ref (fA K "NothingToUndo")) rfl T.g_NothingToUndo rfl) pa_nil))) (pa_cons (pe_callB (call_isX T.xk) (by rfl) T.z_isinstance (by decide +kernel) (pa_cons (pv 0) (pa_cons (pe_glob (v := .ref (fA K "UnknownName")) rfl T.g_UnknownName rfl) pa_nil))) pa_nil)))))))))))), ?_⟩
    refine isx_do T hx (by decide) rfl hxo (isx_do T hx (by decide) rfl hxo (isx_do T hx (by decide) rfl hxo ⟨len_line (by decide : 3 ≤ 100), fun p hp => ?_⟩))
    have c0 : ∀ xs : List V, Clx K H a x fs xs (List.set (L2.start ["_law_error", "_law_result"] [V.ref a]) 1 (some (V.ref p))) (upd H p (.lst xs)) := fun xs => ⟨rfl, ⟨p, rfl, upd_same⟩, xo_upd hxo hp, (Keeps.refl H).upd hp⟩
    refine cl_step T hx (by decide) (by decide) (c0 _) (by decide : 3 ≤ 90) (by decide : (1 : Nat) < 2) fun σ1 H1 l1 c1 => ?_
    refine cl_step T hx (by decide) (by decide) c1 (by decide : 5 ≤ 90) (by rw [l1]; exact (by decide : (1 : Nat) < 2)) fun σ2 H2 l2 c2 => ?_
    refine cl_step T hx (by decide) (by decide) c2 (by decide : 7 ≤ 90) (by rw [l2, l1]; exact (by decide : (1 : Nat) < 2)) fun σ3 H3 l3 c3 => ?_
    refine cl_step T hx (by decide) (by decide) c3 (by decide : 9 ≤ 90) (by rw [l3, l2, l1]; exact (by decide : (1 : Nat) < 2)) fun σ4 H4 l4 c4 => ?_
    refine cl_step T hx (by decide) (by decide) c4 (by decide : 11 ≤ 90) (by rw [l4, l3, l2, l1]; exact (by decide : (1 : Nat) < 2)) fun σ5 H5 l5 c5 => ?_
    exact cl_cat T hx (by decide) (by decide) c5 (by decide : 13 ≤ 90) fun q H6 c6 hq => k _ _ (c6.kp.upd hq) upd_same
end
end NS

set_option Elab.async false
set_option linter.all false
set_option maxRecDepth 100000
set_option maxHeartbeats 4000000
namespace NS
open PySem PySem.Spec PyProof.Rows L2 GX
/-! ### the steps that every reading asks -/
/-- what stands at an address -/
local macro_rules | `(tactic| walk_at "hk") => `(tactic| first
  | assumption
  | exact upd_same
  | (refine Eq.trans (upd_ne ?hkne) ?hkr; (case hkne => walk_at "ne"); (case hkr => walk_at "hk")))
/-- two addresses differ -/
local macro_rules | `(tactic| walk_at "ne") => `(tactic| first
  | assumption
  | (apply Ne.symm; assumption)
  | (refine ne_of_none (H := ?nH) (o := ?nO) ?nea ?neb; (case neb => assumption); (case nea => walk_at "hk"))
  | (refine Ne.symm (ne_of_none (H := ?nH) (o := ?nO) ?nea ?neb); (case neb => assumption); (case nea => walk_at "hk")))
local macro_rules | `(tactic| walk_at "sq") => `(tactic| first
  | assumption
  | (refine SqL.of ?sqh; walk_at "hk")
  | (refine SqT.of ?sqh; walk_at "hk"))
local macro_rules | `(tactic| walk_at "ix") => `(tactic| first | exact rfl | assumption)
/-- a condition of an operator -/
local macro_rules | `(tactic| walk_at "op") => `(tactic| first
  | exact pos_lit (by decide)
  | exact div_lit (by decide)
  | exact divW_of (by first | assumption | omega) (by first | assumption | omega)
  | (show (0 : Int) < _; first | assumption | omega)
  | (show (_ ∧ _) ∨ (_ ∧ _); first | exact .inl ⟨by omega, by omega⟩ | exact .inr ⟨by omega, by omega⟩))
/-- one leaf -/
local macro_rules | `(tactic| walk_at "go1") => `(tactic| first
  | (refine ⟨_, rfl, ?_⟩)
  | (refine ⟨_, _, rfl, rfl, ?gop, ?_⟩; (case gop => walk_at "op"))
  | (refine ⟨_, _, rfl, rfl, ?_⟩)
  | (refine ⟨_, ?goxs, _, ?gov, rfl, rfl, ?gosq, ?goix, ?_⟩; (case gosq => walk_at "sq"); (case goix => walk_at "ix"))
  | (refine ⟨_, ?goxs, _, ?goj, rfl, rfl, ?gohk, ?goix, ?_⟩; (case gohk => walk_at "hk"); (case goix => walk_at "ix")))
local macro_rules | `(tactic| walk_at "go") => `(tactic| repeat walk_at "go1")

def spBases (K : PySem.W.Frag) : Sp := fun vs H Q _ => ∃ (a : Addr) (x : Str) (fs : List (Str × V)) (i : Int), vs = [.ref a, .int i] ∧ x ∈ exs ∧ XO H a (fA K x) fs ∧ (x != "UnknownName") = decide (i < 14) ∧ (x == "UnknownName") = decide (i = 14) ∧ Q (.bl true) H
theorem bl_ne {b c : Bool} {H : Hp} {Q : VK} (h : b = c) (k : Q (.bl false) H) : rNe (.bl b) (.bl c) H Q := by
  subst h
  refine ⟨rfl, ?_⟩
  rw [decide_eq_true (rfl : V.bl b = V.bl b)]
  exact k
theorem bl_eq {b c : Bool} {H : Hp} {Q : VK} (h : b = c) (k : Q (.bl true) H) : rEq (.bl b) (.bl c) H Q := by
  subst h
  refine ⟨rfl, ?_⟩
  rw [decide_eq_true (rfl : V.bl b = V.bl b)]
  exact k
theorem if_f {a b : Prop} (h : b) : if false = true then a else b := h
theorem if_t {a b : Prop} (h : a) : if true = true then a else b := h
section
variable {P : Program} {w : World} {K : PySem.W.Frag} {mg : Str → Option Value} {base : Heap}
theorem ok_law_bases (T : Txt K mg) : FnOk P w K mg base (L2.CX P w) 1 (fA K "_law_bases") (fD K "_law_bases") ["_law_error", "_law_place"] (spBases K) := by
  refine T.F_law_bases.okX sc_law_bases (fun vs H Q E h => ?_) (fun cdv A outer s H vs Q E hr h => ?_)
  · obtain ⟨a, x, fs, i, rfl, _⟩ := h
    rfl
  · obtain ⟨a, x, fs, i, rfl, hx, hxo, h1, h2, k⟩ := h
    have hX := T.xcc hx
    refine ⟨_, (pss_cons (ps_if (PW.pt (pw_or (pt_cmpR op_ne (pe_callB (call_isX T.xk) (by rfl) T.z_isinstance (by decide +kernel) (pa_cons (pv 0) (pa_cons (pe_glob (v := .ref (fA K "NetworkError")) rfl T.g_NetworkError rfl) pa_nil))) (pe_cmpR op_lt (pv 1) pe_int (nomark _)) (nomark _)) (pw_or1 (pt_cmpR op_ne (pe_callB (call_isX T.xk) (by rfl) T.z_isinstance (by decide +kernel) (pa_cons (pv 0) (pa_cons (pe_bltn (v := .ty "ValueError") rfl T.z_ValueError PyProof.Rows.Boot.«ValueError» rfl) pa_nil))) (pe_cmpR op_lt (pv 1) pe_int (nomark _)) (nomark _))))) (pss_one (ps_ret pe_bl)) pss_nil)
      (pss_one (ps_ret (pe_cmpR op_eq (pe_callB (call_isX T.xk) (by rfl) T.z_isinstance (by decide +kernel) (pa_cons (pv 0) (pa_cons (pe_bltn (v := .ty "LookupError") rfl T.z_LookupError PyProof.Rows.Boot.«LookupError» rfl) pa_nil))) (pe_cmpR op_eq (pv 1) pe_int (nomark _)) (nomark _))))), ?_⟩
    walk_at "go"
    refine ⟨a, fA K x, mA K x "__init__", fs, _, _, _, rfl, .own _, hX, hxo, T.isN x hx, ?_⟩
    walk_at "go"
    refine bl_ne h1 ?_
    refine ⟨false, rfl, ?_⟩
    refine if_f ?_
    refine ⟨_, rfl, a, fA K x, mA K x "__init__", fs, _, _, _, rfl, .ty _, hX, hxo, T.isV x hx, ?_⟩
    refine ⟨_, rfl, _, _, rfl, rfl, ?_⟩
    refine bl_ne h1 ?_
    refine ⟨false, rfl, ?_⟩
    refine if_f ?_
    refine ⟨_, rfl, a, fA K x, mA K x "__init__", fs, _, _, _, rfl, .ty _, hX, hxo, T.isL x hx, ?_⟩
    refine ⟨_, rfl, rfl, bl_eq ?_ k⟩
    rw [h2]
    exact decide_eq_decide.mpr ⟨fun e => by rw [e], fun e => V.int.inj e⟩
end
end NS

set_option Elab.async false
set_option linter.all false
set_option maxRecDepth 100000
set_option maxHeartbeats 4000000
namespace NS
open PySem PySem.Spec PyProof.Rows L2 GX LamX NdefX
/-! ### expressions that only make new things -/
/-- the abstract heap without r -/
def dr (r : Option Addr) (H : Hp) : Hp := fun b => if r = some b then none else H b
theorem dr_le (r : Option Addr) (H : Hp) : ∀ b u, dr r H b = some u → H b = some u := fun b u e => by
  unfold dr at e
  split at e
  · cases e
  · exact e
theorem dr_ne {r : Option Addr} {H : Hp} {b : Addr} (h : r ≠ some b) : dr r H b = H b := if_neg h
theorem dr_ext {r : Option Addr} {H H' : Hp} (e : ExtN H H') : ExtN (dr r H) (dr r H') := fun b o h n => by
  unfold dr at h ⊢
  split at h
  · cases h
  · rename_i q
    rw [if_neg q]
    exact e b o h n
theorem dr_extH (r : Option Addr) (H : Hp) : ExtN (dr r H) H := fun b o h _ => dr_le r H b o h
theorem dr_upd {r : Option Addr} {H : Hp} {p : Addr} {o : HO} (h : r ≠ some p) : dr r (upd H p o) = upd (dr r H) p o := by
  funext b
  by_cases e : b = p
  · subst e
    rw [upd_same, dr_ne h, upd_same]
  · rw [upd_ne e]
    unfold dr
    split
    · rfl
    · rw [upd_ne e]
theorem dr_self {r : Addr} {H : Hp} {o : HO} : dr (some r) (upd H r o) = dr (some r) H := by
  funext b
  unfold dr
  split
  · rfl
  · rename_i q
    exact upd_ne fun z => q (by rw [z])
theorem ext_upd {H : Hp} {p : Addr} {o : HO} (h : H p = none) : ExtN H (upd H p o) := fun b u e _ => (upd_ne (ne_of_none e h)).trans e
theorem rd_ext {H H' : Hp} (e : ExtN H H') {a : Addr} {o : HO} (hn : ∀ ps, o ≠ .tbl ps) (h : Rd H a o) : Rd H' a o := h.elim (fun z => .inl (e _ _ z hn)) fun ⟨ob, z⟩ => .inr ⟨ob, e _ _ z fun _ q => nomatch q⟩
mutual
theorem dp_ext {K : PySem.W.Frag} {H H' : Hp} (e : ExtN H H') : ∀ (d : PyData) {v : V}, Dp K H v d → Dp K H' v d
  | .none, _, h => by cases h; exact .non
  | .bool b, _, h => by cases h; exact .bl b
  | .int i, _, h => by cases h; exact .int i
  | .str x, _, h => by cases h; exact .str x
  | .list ds, _, h => by
    cases h with
    | lst h hs => exact .lst (h.elim (fun z => .inl (rd_ext e (fun _ q => nomatch q) z)) .inr) (dpA_ext e ds hs)
  | .tuple ds, _, h => by
    cases h with
    | tup h hs => exact .tup (h.elim (fun z => .inl (rd_ext e (fun _ q => nomatch q) z)) .inr) (dpA_ext e ds hs)
  | .dict _, _, h => by cases h
theorem dpA_ext {K : PySem.W.Frag} {H H' : Hp} (e : ExtN H H') : ∀ (ds : List PyData) {vs : List V}, DpAll K H vs ds → DpAll K H' vs ds
  | [], _, h => by cases h; exact .nil
  | d :: ds, _, h => by
    cases h with
    | cons h hs => exact .cons (dp_ext e d h) (dpA_ext e ds hs)
end
theorem exd_tbl {e : Addr} {fs : List (Str × V)} {ps : Array Value} : exd e fs ≠ .tbl ps := fun z => by
  have z' : HO.ext _ = HO.tbl ps := z
  cases z'
theorem lmO_tbl {f c : Addr} {W : LW} {ps : Array Value} : LmO f c W ≠ .tbl ps := fun z => by
  have z' : HO.ext _ = HO.tbl ps := z
  cases z'
theorem xo_ext {H H' : Hp} (e : ExtN H H') {a C : Addr} {fs : List (Str × V)} (h : XO H a C fs) : XO H' a C fs := by
  obtain ⟨dx, h1, h2⟩ := h
  exact ⟨dx, e _ _ h1 fun _ => exo_tbl, e _ _ h2 fun _ => exd_tbl⟩
theorem lm_ext {H H' : Hp} (e : ExtN H H') {f : Addr} {W : LW} (h : IsLm H f W) : IsLm H' f W := by
  obtain ⟨c, h1, h2⟩ := h
  exact ⟨c, e _ _ h1 fun _ => lmO_tbl, e _ _ h2 codeO_ne⟩
theorem dpA_len {K : PySem.W.Frag} {H : Hp} : ∀ {vs : List V} {ds : List PyData}, DpAll K H vs ds → vs.length = ds.length
  | _, _, .nil => rfl
  | _, _, .cons _ hs => congrArg Nat.succ (dpA_len hs)
def Here (r : Option Addr) (H : Hp) : Prop := ∀ a, r = some a → ∃ xs, H a = some (.lst xs)
theorem Here.ne {r : Option Addr} {H : Hp} (h : Here r H) {p : Addr} (hp : H p = none) : r ≠ some p := fun z => by
  obtain ⟨xs, e⟩ := h p z
  rw [hp] at e
  cases e
theorem Here.ext {r : Option Addr} {H H' : Hp} (h : Here r H) (e : ExtN H H') : Here r H' := fun a z => let ⟨xs, q⟩ := h a z; ⟨xs, e _ _ q fun _ q => nomatch q⟩
section
variable (Ts : List NTab) (r : Option Addr) (H9 : Hp) (K : PySem.W.Frag) (σ : L2.St)
/-- A's value, told of the heap without r -/
def Dz (A : TE) (Po : V → Hp → Prop) : Prop := ∀ (H : Hp) (Q : VK), Here r H → TabsN Ts H → ExtN H9 (dr r H) → (∀ v H', ExtN H H' → TabsN Ts H' → Po v (dr r H') → Q v H') → A σ H Q
def DzA (t : TA) (ds : List PyData) : Prop := ∀ (H : Hp) (Q : List V → Hp → Prop), Here r H → TabsN Ts H → ExtN H9 (dr r H) → (∀ vs H', ExtN H H' → TabsN Ts H' → DpAll K (dr r H') vs ds → Q vs H') → t σ H Q
end
section
variable {Ts : List NTab} {r : Option Addr} {H9 : Hp} {K : PySem.W.Frag} {σ : L2.St} {A B : TE} {t tk : TA} {d : PyData} {ds : List PyData}
theorem dz_val {v : V} (h : ∀ H, Dp K H v d) : Dz Ts r H9 σ (tC v) (fun u H => Dp K H u d) := fun H Q _ hT hx k => k v H (ExtN.refl H) hT (h _)
theorem dz_var {i : Nat} {v : V} (hi : σ[i]? = some (some v)) (h : ∀ H, Dp K H v d) : Dz Ts r H9 σ (tVar i) (fun u H => Dp K H u d) := fun H Q _ hT hx k => ⟨v, hi, k v H (ExtN.refl H) hT (h _)⟩
theorem dz_pair {i : Nat} {l : Addr} {zs : List V} (hi : σ[i]? = some (some (.ref l))) (h1 : H9 l = some (.lst zs)) (h2 : DpAll K H9 zs ds) : Dz Ts r H9 σ (tVar i) (fun v H => ∃ l zs, v = .ref l ∧ H l = some (.lst zs) ∧ DpAll K H zs ds) := fun H Q _ hT hx k => ⟨_, hi, k _ H (ExtN.refl H) hT ⟨l, zs, rfl, hx _ _ h1 (fun _ q => nomatch q), dpA_ext hx _ h2⟩⟩
theorem dz_plus1 {i : Nat} {n : Int} (hi : σ[i]? = some (some (.int n))) : Dz Ts r H9 σ (tOp (rI0 fun i j => .int (i + j)) (tVar i) (tC (.int 1))) (fun u H => Dp K H u (.int (n + 1))) := fun H Q _ hT hx k => ⟨_, hi, _, _, rfl, rfl, k _ H (ExtN.refl H) hT (.int _)⟩
theorem dza_nil : DzA Ts r H9 K σ tNil [] := fun H Q _ hT hx k => k [] H (ExtN.refl H) hT .nil
theorem dza_cons (a : Dz Ts r H9 σ A (fun u H => Dp K H u d)) (b : DzA Ts r H9 K σ t ds) : DzA Ts r H9 K σ (tCons A t) (d :: ds) := fun H Q hr hT hx k =>
  a H _ hr hT hx fun v H1 e1 T1 p1 => b H1 _ (hr.ext e1) T1 (hx.trans (dr_ext e1)) fun vs H2 e2 T2 p2 => k (v :: vs) H2 (e1.trans e2) T2 (.cons (dp_ext (dr_ext e2) _ p1) p2)
theorem tabs_upd {H : Hp} {p : Addr} {o : HO} (hT : TabsN Ts H) (hp : H p = none) : TabsN Ts (upd H p o) := hT.ext fun b u e => (upd_ne (ne_of_none e hp)).trans e
/-- a list of these -/
def PoL (K : PySem.W.Frag) (ds : List PyData) : V → Hp → Prop := fun v H => ∃ l zs, v = .ref l ∧ H l = some (.lst zs) ∧ DpAll K H zs ds
theorem dz_lst (a : DzA Ts r H9 K σ t ds) (hl : ds.length ≤ 100) : Dz Ts r H9 σ (tLst t) (PoL K ds) := fun H Q hr hT hx k =>
  a H _ hr hT hx fun vs H1 e1 T1 p1 => ⟨len_line (by rw [dpA_len p1]; exact hl), fun p hp => by
    have ne := (hr.ext e1).ne hp
    refine k _ _ (e1.trans (ext_upd hp)) (tabs_upd T1 hp) ⟨p, vs, rfl, ?_, dpA_ext (dr_ext (ext_upd hp)) _ p1⟩
    rw [dr_upd ne, upd_same]⟩
theorem dz_lstD (a : DzA Ts r H9 K σ t ds) (hl : ds.length ≤ 100) : Dz Ts r H9 σ (tLst t) (fun u H => Dp K H u (.list ds)) := fun H Q hr hT hx k =>
  dz_lst a hl H Q hr hT hx fun v H' e T' ⟨l, zs, e1, e2, e3⟩ => k v H' e T' (by subst e1; exact .lst (SqL.of e2) e3)
theorem dz_tupD (a : DzA Ts r H9 K σ t ds) (hl : ds.length ≤ 100) : Dz Ts r H9 σ (tTup t) (fun u H => Dp K H u (.tuple ds)) := fun H Q hr hT hx k =>
  a H _ hr hT hx fun vs H1 e1 T1 p1 => ⟨len_line (by rw [dpA_len p1]; exact hl), fun p hp => by
    have ne := (hr.ext e1).ne hp
    refine k _ _ (e1.trans (ext_upd hp)) (tabs_upd T1 hp) (.tup (SqT.of ?_) (dpA_ext (dr_ext (ext_upd hp)) _ p1))
    rw [dr_upd ne, upd_same]⟩
/-- an exception with these fields -/
def PoX (K : PySem.W.Frag) (C : Addr) (fs : List V → List (Str × V)) (ds : List PyData) : V → Hp → Prop := fun v H => ∃ e ys, v = .ref e ∧ XO H e C (fs ys) ∧ DpAll K H ys ds
theorem spI_do {C : Addr} {n : Nat} {fs : List V → List (Str × V)} {H : Hp} {a : Addr} {ys : List V} {Q : VK} {Ex : XK} (hr : Here r H) (hT : TabsN Ts H) (ha : H a = none) (hl : ys.length = n) (p : DpAll K (dr r H) ys ds)
    (k : ∀ v H', ExtN H H' → TabsN Ts H' → PoX K C fs ds v (dr r H') → Q v H') : spI C n fs (V.ref a :: ys) (upd H a (exo a C none)) (fun v H3 => v = .non ∧ Q (.ref a) H3) Ex := by
  refine ⟨a, ys, rfl, hl, upd_same, fun H' xo kp nn => ⟨rfl, ?_⟩⟩
  have kp' : ∀ b u, H b = some u → H' b = some u := fun b u e => kp b u (ne_of_none e ha) ((upd_ne (ne_of_none e ha)).trans e)
  have ex : ExtN H H' := ExtN.of kp'
  refine k _ _ ex (hT.ext kp') ⟨a, ys, rfl, ?_, dpA_ext (dr_ext ex) _ p⟩
  obtain ⟨dx, h1, h2⟩ := xo
  have na := hr.ne ha
  have nd : r ≠ some dx := fun z => by
    obtain ⟨xs, q⟩ := hr dx z
    rw [kp' _ _ q] at h2
    cases h2
  exact ⟨dx, (dr_ne na).trans h1, (dr_ne nd).trans h2⟩
theorem dz_xpos {C : Addr} {n : Nat} {fs : List V → List (Str × V)} {Ex : XK} (a : DzA Ts r H9 K σ t ds) (hn : ds.length = n) : Dz Ts r H9 σ (tXmk C n 0 (spI C n fs) (fun vs _ => vs) Ex t tNil) (PoX K C fs ds) := fun H Q hr hT hx k =>
  a H _ hr hT hx fun vs H1 e1 T1 p1 => ⟨(dpA_len p1).trans hn, rfl, fun b hb => spI_do (hr.ext e1) T1 hb ((dpA_len p1).trans hn) p1 fun v H' e' T' po => k v H' (e1.trans e') T' po⟩
theorem dz_xkw {C : Addr} {n : Nat} {fs : List V → List (Str × V)} {Ex : XK} (a : DzA Ts r H9 K σ tk ds) (hn : ds.length = n) : Dz Ts r H9 σ (tXmk C 0 n (spI C n fs) (fun vs zs => vs ++ zs) Ex tNil tk) (PoX K C fs ds) := fun H Q hr hT hx k =>
  a H _ hr hT hx fun vs H1 e1 T1 p1 => ⟨rfl, (dpA_len p1).trans hn, fun b hb => spI_do (hr.ext e1) T1 hb ((dpA_len p1).trans hn) p1 fun v H' e' T' po => k v H' (e1.trans e') T' po⟩
theorem dz_xkw2 {C : Addr} {fs : List V → List (Str × V)} {Ex : XK} {d1 d2 : PyData} (a : DzA Ts r H9 K σ tk [d2, d1]) : Dz Ts r H9 σ (tXmk C 0 2 (spI C 2 fs) (fun vs zs => vs ++ zs.reverse) Ex tNil tk) (PoX K C fs [d1, d2]) := fun H Q hr hT hx k =>
  a H _ hr hT hx fun vs H1 e1 T1 p1 => ⟨rfl, dpA_len p1, fun b hb => by
    cases p1 with
    | cons h1 p2 => cases p2 with
      | cons h2 p3 => cases p3 with
        | nil => exact spI_do (hr.ext e1) T1 hb rfl (.cons h2 (.cons h1 .nil)) fun v H' e' T' po => k v H' (e1.trans e') T' po⟩
theorem dz_lam {W : LW} : Dz Ts r H9 σ (tLamV Ts W) (fun v H => ∃ f, v = .ref f ∧ IsLm H f W) := fun H Q hr hT hx k => ⟨hT, fun f H1 e1 nn T1 hf l => k _ _ e1 T1 ⟨f, rfl, by
  obtain ⟨c, h1, h2⟩ := l
  have h3 := hr.ext e1
  have ne : ∀ {b : Addr} {o : HO}, H1 b = some o → (∀ xs, o ≠ .lst xs) → r ≠ some b := fun {b o} e n z => by
    obtain ⟨xs, q⟩ := h3 b z
    rw [q] at e
    exact n xs (Option.some.inj e).symm
  exact ⟨c, (dr_ne (ne h1 fun xs z => by cases (show HO.ext _ = HO.lst xs from z))).trans h1, (dr_ne (ne h2 fun xs z => by cases (show HO.ext _ = HO.lst xs from z))).trans h2⟩⟩⟩
/-- an entry: two exceptions, a lambda, the list that is expected -/
def Ent (K : PySem.W.Frag) (C : Addr) (fs : List V → List (Str × V)) (W : LW) (ds : List PyData) : V → Hp → Prop := fun v H => ∃ t e1 e2 f l xs ys zs, v = .ref t ∧ H t = some (.tup [.ref e1, .ref e2, .ref f, .ref l]) ∧ XO H e1 C (fs xs) ∧ DpAll K H xs ds ∧
  XO H e2 C (fs ys) ∧ DpAll K H ys ds ∧ IsLm H f W ∧ H l = some (.lst zs) ∧ DpAll K H zs ds
theorem ent_ext {H H' : Hp} (e : ExtN H H') {C : Addr} {fs : List V → List (Str × V)} {W : LW} {v : V} (h : Ent K C fs W ds v H) : Ent K C fs W ds v H' := by
  obtain ⟨t, e1, e2, f, l, xs, ys, zs, h1, h2, h3, h4, h5, h6, h7, h8, h9⟩ := h
  exact ⟨t, e1, e2, f, l, xs, ys, zs, h1, e _ _ h2 (fun _ q => nomatch q), xo_ext e h3, dpA_ext e _ h4, xo_ext e h5, dpA_ext e _ h6, lm_ext e h7, e _ _ h8 (fun _ q => nomatch q), dpA_ext e _ h9⟩
theorem dz_ent {L Z : TE} {C : Addr} {fs : List V → List (Str × V)} {W : LW} (a : Dz Ts r H9 σ A (PoX K C fs ds)) (b : Dz Ts r H9 σ B (PoX K C fs ds)) (l : Dz Ts r H9 σ L (fun v H => ∃ f, v = .ref f ∧ IsLm H f W)) (z : Dz Ts r H9 σ Z (PoL K ds)) :
    Dz Ts r H9 σ (tTup (tCons A (tCons B (tCons L (tCons Z tNil))))) (Ent K C fs W ds) := fun H Q hr hT hx k =>
  a H _ hr hT hx fun v1 H1 x1 T1 ⟨e1, xs, q1, q2, q3⟩ => b H1 _ (hr.ext x1) T1 (hx.trans (dr_ext x1)) fun v2 H2 x2 T2 ⟨e2, ys, q4, q5, q6⟩ => l H2 _ ((hr.ext x1).ext x2) T2 ((hx.trans (dr_ext x1)).trans (dr_ext x2)) fun v3 H3 x3 T3 ⟨f, q7, q8⟩ => z H3 _ (((hr.ext x1).ext x2).ext x3) T3 (((hx.trans (dr_ext x1)).trans (dr_ext x2)).trans (dr_ext x3)) fun v4 H4 x4 T4 ⟨l, zs, q9, q10, q11⟩ =>
    ⟨len_line (by decide : 4 ≤ 100), fun p hp => by
      subst q1 q4 q7 q9
      have ne := ((((hr.ext x1).ext x2).ext x3).ext x4).ne hp
      have x5 : ExtN (dr r H4) (dr r (upd H4 p (.tup [.ref e1, .ref e2, .ref f, .ref l]))) := dr_ext (ext_upd hp)
      have x34 := (dr_ext (r := r) x3).trans ((dr_ext (r := r) x4).trans x5)
      refine k _ _ ((((x1.trans x2).trans x3).trans x4).trans (ext_upd hp)) (tabs_upd T4 hp) ⟨p, e1, e2, f, l, xs, ys, zs, rfl, ?_, xo_ext ((dr_ext x2).trans x34) q2, dpA_ext ((dr_ext x2).trans x34) _ q3, xo_ext x34 q5, dpA_ext x34 _ q6, lm_ext ((dr_ext x4).trans x5) q8, x5 _ _ q10 (fun _ q => nomatch q), dpA_ext x5 _ q11⟩
      rw [dr_upd ne, upd_same]⟩
end
end NS

set_option Elab.async false
set_option linter.all false
set_option maxRecDepth 100000
set_option maxHeartbeats 4000000
namespace NS
open PySem PySem.Spec PyProof.Rows L2 GX LamX NdefX
/-! ### the steps that every reading asks -/
/-- what stands at an address -/
local macro_rules | `(tactic| walk_at "hk") => `(tactic| first
  | assumption
  | exact upd_same
  | (refine Eq.trans (upd_ne ?hkne) ?hkr; (case hkne => walk_at "ne"); (case hkr => walk_at "hk")))
/-- two addresses differ -/
local macro_rules | `(tactic| walk_at "ne") => `(tactic| first
  | assumption
  | (apply Ne.symm; assumption)
  | (refine ne_of_none (H := ?nH) (o := ?nO) ?nea ?neb; (case neb => assumption); (case nea => walk_at "hk"))
  | (refine Ne.symm (ne_of_none (H := ?nH) (o := ?nO) ?nea ?neb); (case neb => assumption); (case nea => walk_at "hk")))
local macro_rules | `(tactic| walk_at "sq") => `(tactic| first
  | assumption
  | (refine SqL.of ?sqh; walk_at "hk")
  | (refine SqT.of ?sqh; walk_at "hk"))
local macro_rules | `(tactic| walk_at "ix") => `(tactic| first | exact rfl | assumption)
/-- a condition of an operator -/
local macro_rules | `(tactic| walk_at "op") => `(tactic| first
  | exact pos_lit (by decide)
  | exact div_lit (by decide)
  | exact divW_of (by first | assumption | omega) (by first | assumption | omega)
  | (show (0 : Int) < _; first | assumption | omega)
  | (show (_ ∧ _) ∨ (_ ∧ _); first | exact .inl ⟨by omega, by omega⟩ | exact .inr ⟨by omega, by omega⟩))
/-- one leaf -/
local macro_rules | `(tactic| walk_at "go1") => `(tactic| first
  | (refine ⟨_, rfl, ?_⟩)
  | (refine ⟨_, _, rfl, rfl, ?gop, ?_⟩; (case gop => walk_at "op"))
  | (refine ⟨_, _, rfl, rfl, ?_⟩)
  | (refine ⟨_, ?goxs, _, ?gov, rfl, rfl, ?gosq, ?goix, ?_⟩; (case gosq => walk_at "sq"); (case goix => walk_at "ix"))
  | (refine ⟨_, ?goxs, _, ?goj, rfl, rfl, ?gohk, ?goix, ?_⟩; (case gohk => walk_at "hk"); (case goix => walk_at "ix")))
local macro_rules | `(tactic| walk_at "go") => `(tactic| repeat walk_at "go1")

abbrev qLam : Str := "_law_made.<locals>.<lambda>"
abbrev mC (K : PySem.W.Frag) : Addr := (He.cT K ("_law_made", none)).1
abbrev mP (K : PySem.W.Frag) : Addr := (He.cT K ("_law_made", none)).2
def lTs (K : PySem.W.Frag) : List NTab := [(mP K, fun _ _ => qLam)]
theorem lam_mem {K : PySem.W.Frag} : (mP K, fun _ _ => qLam) ∈ lTs K := List.mem_singleton.mpr rfl
theorem lam_one {K : PySem.W.Frag} : ∀ p ∈ lTs K, p.1 = mP K → p.2 = fun _ _ => qLam := fun p hp _ => by rw [List.mem_singleton.mp hp]
/-- a def's promise, its code object known by name -/
theorem okC {P : Program} {w : World} {K : PySem.W.Frag} {mg : Str → Option Value} {base : Heap} {x qual : Str} {st : Stmt} {fd : FuncData} {N ps : List Str} {k : Nat} {sp : Sp} {at_ : He.Defn} (F : L2.Fun K x qual st (He.fAd K at_) fd) (S : FnScope N ps (defScope st)) (len : ∀ vs H Q E, sp vs H Q E → vs.length = ps.length)
    (hbody : ∀ (A : Around) (outer : List Env) (s : Shared) (H : Hp) (vs : List V) (Q : VK) (E : XK), Room k (A.deeper (envOfC qual (defScope st) s.heap.objs.size (He.fAd K at_) (.ref (He.cT K at_).1))) → sp vs H Q E →
      ∃ t, PSs (cxOf (L2.CX P w) P w K mg base N qual (defScope st) (He.fAd K at_) (.ref (He.cT K at_).1) A outer s H E) (defBody st) t ∧ t { nx := fun _ H' => Q .non H', rt := Q } (start N vs) H) : FnOk P w K mg base (L2.CX P w) (k + 1) (He.fAd K at_) fd ps sp := by
  obtain ⟨oc, od, kV, doc, pm, an, cdv, ct, osl, rfl, lk, hcd⟩ := F.ex
  obtain ⟨c, rfl⟩ := He.codeIn_ref hcd
  have e : (He.cT K at_).1 = c := He.codeOf_eq lk rfl
  rw [e] at hbody
  exact fn_of lk hcd S len fun A outer s H vs Q E hr hsp => hbody A outer s H vs Q E hr hsp
/-- the lambda of an entry, as the text has it -/
def lamOf : Expr → LW
  | .Lambda params body scope _ => ⟨qLam, params, body, scope⟩
  | _ => ⟨qLam, ⟨[], [], none, [], [], none, []⟩, .Constant .none 0 ⟨0, 0, 0, 0⟩, ⟨.function, [], false, false, []⟩⟩
def entE : Stmt → Expr
  | .Assign _ (.List [.Tuple es _ _] _) _ => es.getD 2 (.Constant .none 0 ⟨0, 0, 0, 0⟩)
  | .Expr (.Call _ [.Tuple es _ _] _ _) _ => es.getD 2 (.Constant .none 0 ⟨0, 0, 0, 0⟩)
  | _ => .Constant .none 0 ⟨0, 0, 0, 0⟩
def lamAt (i : Nat) : LW := lamOf (entE ((defBody s_law_made).getD (if i < 7 then i else i + 1) (.Pass ⟨0, 0, 0, 0⟩)))
/-- class, fields, data of each entry -/
def ents (fig : Int) (phr : Str) : List (Str × List Str × List PyData) := [("InvalidWidth", ["value"], [.int fig]), ("InvalidStep", ["index"], [.int fig]), ("InvalidValues", ["index"], [.none]), ("InvalidIndex", ["index"], [.str phr]), ("InvalidCode", ["index"], [.int fig]),
  ("InvalidMove", ["move"], [.tuple [.str phr, .int 1]]), ("InvalidNumber", ["number"], [.str phr]), ("WidthMismatch", ["first", "second"], [.int fig, .int (fig + 1)]), ("NotEquivalent", ["bits"], [.list [.int 1, .int 0]]), ("LimitExceeded", ["count"], [.int fig]),
  ("ParseError", ["index"], [.int fig]), ("InvalidCommand", ["text"], [.str phr]), ("InvalidChange", ["index"], [.int fig]), ("NothingToUndo", ["count"], [.int fig]), ("UnknownName", ["name"], [.str phr])]
def EntN (K : PySem.W.Frag) (n : Str × List Str × List PyData) (i : Nat) : V → Hp → Prop := Ent K (fA K n.1) (fldsOf n.2.1) (lamAt i) n.2.2
def Ents (K : PySem.W.Frag) (fig : Int) (phr : Str) (k : Nat) (ts : List V) (H : Hp) : Prop := ts.length = k ∧ ∀ i, i < k → ∃ v n, ts[i]? = some v ∧ (ents fig phr)[i]? = some n ∧ EntN K n i v H
theorem ents_ext {K : PySem.W.Frag} {fig : Int} {phr : Str} {k : Nat} {ts : List V} {H H' : Hp} (e : ExtN H H') (h : Ents K fig phr k ts H) : Ents K fig phr k ts H' := ⟨h.1, fun i hi => let ⟨v, n, h1, h2, h3⟩ := h.2 i hi; ⟨v, n, h1, h2, ent_ext e h3⟩⟩
theorem ents_snoc {K : PySem.W.Frag} {fig : Int} {phr : Str} {k : Nat} {ts : List V} {H : Hp} {v : V} {n : Str × List Str × List PyData} (h : Ents K fig phr k ts H) (hn : (ents fig phr)[k]? = some n) (e : EntN K n k v H) : Ents K fig phr (k + 1) (ts ++ [v]) H := by
  refine ⟨by rw [List.length_append, h.1]; rfl, fun i hi => ?_⟩
  by_cases hk : i < k
  · obtain ⟨v', n', h1, h2, h3⟩ := h.2 i hk
    exact ⟨v', n', by rw [List.getElem?_append_left (by rw [h.1]; exact hk)]; exact h1, h2, h3⟩
  · have e' : i = k := by omega
    subst e'
    exact ⟨v, n, by rw [List.getElem?_append_right (by rw [h.1]; exact Nat.le_refl _), h.1]; simp, hn, e⟩
theorem tabs_lst {Ts : List NTab} {H : Hp} {r : Addr} {xs ys : List V} (hT : TabsN Ts H) (hr : H r = some (.lst xs)) : TabsN Ts (upd H r (.lst ys)) := fun p hp => by
  obtain ⟨ps, h1, h2, h3⟩ := hT p hp
  refine ⟨ps, (upd_ne fun z => by rw [z, hr] at h1; cases h1).trans h1, h2, fun pos cv hc => ?_⟩
  obtain ⟨c, e1, e2⟩ := h3 pos cv hc
  refine ⟨c, e1, (upd_ne fun z => ?_).trans e2⟩
  rw [z, hr] at e2
  cases (show HO.lst xs = HO.ext _ from Option.some.inj e2)
/-- amid _law_made -/
structure Mid (K : PySem.W.Frag) (H0 : Hp) (fig : Int) (phr : Str) (k : Nat) (σ : L2.St) (H : Hp) : Prop where
  s0 : σ[0]? = some (some (.int fig))
  s1 : σ[1]? = some (some (.str phr))
  len : σ.length = 4
  rs : ∃ r ts, σ[2]? = some (some (.ref r)) ∧ H r = some (.lst ts) ∧ Ents K fig phr k ts (dr (some r) H) ∧ ExtN H0 (dr (some r) H)
  tb : TabsN (lTs K) H
section
variable {K : PySem.W.Frag} {H0 H : Hp} {fig : Int} {phr : Str} {k : Nat} {σ : L2.St} {D : Ends} {t : TS} {A : TE} {n : Str × List Str × List PyData} {W : LW}
theorem made_step (hn : (ents fig phr)[k]? = some n) (hk : k ≤ 50) (m : Mid K H0 fig phr k σ H) (a : ∀ r ts, σ[2]? = some (some (.ref r)) → H r = some (.lst ts) → Dz (lTs K) (some r) (dr (some r) H) σ A (EntN K n k)) (c : ∀ H', Mid K H0 fig phr (k + 1) σ H' → t D σ H') :
    tSeq (tDrop (tBM K "list" rAppend (tVar 2) (tCons A tNil))) t D σ H := by
  obtain ⟨r, ts, h2, hr, he, hx⟩ := m.rs
  refine ⟨_, h2, (.inl ⟨rfl, ts, SqL.of hr⟩ : tyV K "list" (.ref r) H), a r ts h2 hr H _ (fun b z => by cases z; exact ⟨ts, hr⟩) m.tb (ExtN.refl _) fun v H1 x1 T1 e1 => ?_⟩
  have hr1 : H1 r = some (.lst ts) := x1 _ _ hr (fun _ q => nomatch q)
  refine ⟨r, ts, v, rfl, rfl, hr1, len_line (by rw [he.1]; omega), c _ ⟨m.s0, m.s1, m.len, ⟨r, _, h2, upd_same, ?_, ?_⟩, tabs_lst T1 hr1⟩⟩
  · rw [dr_self]
    exact ents_snoc (ents_ext (dr_ext x1) he) hn e1
  · rw [dr_self]
    exact hx.trans (dr_ext x1)
theorem dz_entN {Ts : List NTab} {r : Option Addr} {H9 : Hp} {B Z : TE} (hW : W = lamAt k) (a : Dz Ts r H9 σ A (PoX K (fA K n.1) (fldsOf n.2.1) n.2.2)) (b : Dz Ts r H9 σ B (PoX K (fA K n.1) (fldsOf n.2.1) n.2.2)) (z : Dz Ts r H9 σ Z (PoL K n.2.2)) :
    Dz Ts r H9 σ (tTup (tCons A (tCons B (tCons (tLamV Ts W) (tCons Z tNil))))) (EntN K n k) := by
  subst hW
  exact dz_ent a b dz_lam z
theorem lw_q {q : Str} {p : Arguments} {b : Expr} {s : Scope} (h : q = qLam) (e : (⟨qLam, p, b, s⟩ : LW) = lamAt k) : (⟨q, p, b, s⟩ : LW) = lamAt k := h ▸ e
theorem qual_made : (("_law_made" : Str) ++ ".<locals>.") ++ "<lambda>" = qLam := by decide +kernel
theorem made_first (hn : (ents fig phr)[0]? = some n) (h0 : σ[0]? = some (some (.int fig))) (h1 : σ[1]? = some (some (.str phr))) (hl : σ.length = 4) (hT : TabsN (lTs K) H) (a : Dz (lTs K) none H σ A (EntN K n 0)) (c : ∀ σ' H', Mid K H fig phr 1 σ' H' → t D σ' H') :
    tSeq (tAsg (tLst (tCons A tNil)) (gName 2)) t D σ H := by
  refine a H _ (fun b z => nomatch z) hT (ExtN.refl _) fun v H1 x1 T1 e1 => ⟨len_line (by decide : 1 ≤ 100), fun p hp => c _ _ ⟨?_, ?_, by rw [List.length_set]; exact hl, ⟨p, [v], by rw [List.getElem?_set_self (by omega)], upd_same, ?_, ?_⟩, tabs_upd T1 hp⟩⟩
  · rw [List.getElem?_set_ne (by decide)]; exact h0
  · rw [List.getElem?_set_ne (by decide)]; exact h1
  · have q : ExtN (dr none H1) (dr (some p) (upd H1 p (.lst [v]))) := fun b o e n => by
      have e' := dr_le none H1 b o e
      rw [dr_self, dr_ne (fun z => by cases z; rw [hp] at e'; cases e')]
      exact e'
    exact ⟨rfl, fun i hi => ⟨v, n, by have : i = 0 := by omega
                                      subst this; rfl, by have : i = 0 := by omega
                                                          subst this; exact hn, by have : i = 0 := by omega
                                                                                   subst this; exact ent_ext q e1⟩⟩
  · exact fun b o e n => by
      have e' := x1 b o e n
      rw [dr_self, dr_ne (fun z => by cases z; rw [hp] at e'; cases e')]
      exact e'
theorem made_pair (m : Mid K H0 fig phr k σ H) (c : ∀ σ' H', Mid K H0 fig phr k σ' H' → (∃ l zs, σ'[3]? = some (some (.ref l)) ∧ ∀ r, σ'[2]? = some (some (.ref r)) → dr (some r) H' l = some (.lst zs) ∧ DpAll K (dr (some r) H') zs [.int fig, .int (fig + 1)]) → t D σ' H') :
    tSeq (tAsg (tLst (tCons (tVar 0) (tCons (tOp (rI0 fun i j => .int (i + j)) (tVar 0) (tC (.int 1))) tNil))) (gName 3)) t D σ H := by
  obtain ⟨r, ts, h2, hr, he, hx⟩ := m.rs
  refine ⟨_, m.s0, _, m.s0, _, _, rfl, rfl, len_line (by decide : 2 ≤ 100), fun p hp => ?_⟩
  have ne : (some r : Option Addr) ≠ some p := fun z => by cases z; rw [hr] at hp; cases hp
  have g2 : (σ.set 3 (some (V.ref p)))[2]? = some (some (.ref r)) := by rw [List.getElem?_set_ne (by decide)]; exact h2
  refine c _ _ ⟨by rw [List.getElem?_set_ne (by decide)]; exact m.s0, by rw [List.getElem?_set_ne (by decide)]; exact m.s1, by rw [List.length_set]; exact m.len, ⟨r, ts, g2, (upd_ne (ne_of_none hr hp)).trans hr, ents_ext (dr_ext (ext_upd hp)) he, hx.trans (dr_ext (ext_upd hp))⟩, tabs_upd m.tb hp⟩
    ⟨p, [V.int fig, V.int (fig + 1)], by rw [List.getElem?_set_self (by rw [m.len]; decide)], fun r' h' => ?_⟩
  rw [g2] at h'
  cases h'
  rw [dr_upd ne]
  exact ⟨upd_same, .cons (.int _) (.cons (.int _) .nil)⟩
end
def spMade (K : PySem.W.Frag) : Sp := fun vs H Q _ => ∃ (fig : Int) (phr : Str), vs = [.int fig, .str phr] ∧ TabsN (lTs K) H ∧ ∀ H' r ts, TabsN (lTs K) H' → H' r = some (.lst ts) → Ents K fig phr 15 ts (dr (some r) H') → ExtN H (dr (some r) H') → Q (.ref r) H'
section
variable {P : Program} {w : World} {K : PySem.W.Frag} {mg : Str → Option Value} {base : Heap}
theorem ok_law_made (T : Txt K mg) (TB : TabB base mg (mC K) (mP K)) : FnOk P w K mg base (L2.CX P w) 3 (fA K "_law_made") (fD K "_law_made") ["_law_figure", "_law_phrase"] (spMade K) := by
  refine okC (at_ := ("_law_made", none)) T.F_law_made sc_law_made (fun vs H Q E h => ?_) (fun A outer s H vs Q E hr h => ?_)
  · obtain ⟨fig, phr, rfl, _⟩ := h
    rfl
  · obtain ⟨fig, phr, rfl, hT, k⟩ := h
    refine ⟨_, (pss_cons (ps_set (i := 2) sc_law_made.nd rfl (by first | exact Or.inl rfl | exact Or.inr rfl) (pe_lst (pa_cons (pe_tup (pa_cons (pe_xmk xb_value T.X_InvalidWidth (ok_InvalidWidth_init T) (hr.mono (by decide)) (kb_pos T.b_InvalidWidth___init rfl) passL (by rfl) T.g_InvalidWidth (pa_cons (pv 0) pa_nil) (by decide)) (pa_cons (pe_xmkK xb_value T.X_InvalidWidth (ok_InvalidWidth_init T) (hr.mono (by decide)) T.kb_InvalidWidth passL (by rfl) T.g_InvalidWidth (pk_cons (pv 0) pk_nil)) (pa_cons (pe_lamv TB rfl lam_mem rfl lam_one) (pa_cons (pe_lst (pa_cons (pv 0) pa_nil)) pa_nil))))) pa_nil)))
      (pss_cons (ps_expr (pe_bm PySem.F.plainAttrs_list PySem.F.slot_list_append PySem.F.type_list_append mt_append (pv 2) (pa_cons (pe_tup (pa_cons (pe_xmk xb_value T.X_InvalidStep (ok_InvalidStep_init T) (hr.mono (by decide)) (kb_pos T.b_InvalidStep___init rfl) passL (by rfl) T.g_InvalidStep (pa_cons (pv 0) pa_nil) (by decide)) (pa_cons (pe_xmkK xb_value T.X_InvalidStep (ok_InvalidStep_init T) (hr.mono (by decide)) T.kb_InvalidStep passL (by rfl) T.g_InvalidStep (pk_cons (pv 0) pk_nil)) (pa_cons (pe_lamv TB rfl lam_mem rfl lam_one) (pa_cons (pe_lst (pa_cons (pv 0) pa_nil)) pa_nil))))) pa_nil)))
      (pss_cons (ps_expr (pe_bm PySem.F.plainAttrs_list PySem.F.slot_list_append PySem.F.type_list_append mt_append (pv 2) (pa_cons (pe_tup (pa_cons (pe_xmk xb_value T.X_InvalidValues (ok_InvalidValues_init T) (hr.mono (by decide)) (kb_pos T.b_InvalidValues___init rfl) passL (by rfl) T.g_InvalidValues (pa_cons pe_non pa_nil) (by decide)) (pa_cons (pe_xmkK xb_value T.X_InvalidValues (ok_InvalidValues_init T) (hr.mono (by decide)) T.kb_InvalidValues passL (by rfl) T.g_InvalidValues (pk_cons pe_non pk_nil)) (pa_cons (pe_lamv TB rfl lam_mem rfl lam_one) (pa_cons (pe_lst (pa_cons pe_non pa_nil)) pa_nil))))) pa_nil)))
      (pss_cons (ps_expr (pe_bm PySem.F.plainAttrs_list PySem.F.slot_list_append PySem.F.type_list_append mt_append (pv 2) (pa_cons (pe_tup (pa_cons (pe_xmk xb_value T.X_InvalidIndex (ok_InvalidIndex_init T) (hr.mono (by decide)) (kb_pos T.b_InvalidIndex___init rfl) passL (by rfl) T.g_InvalidIndex (pa_cons (pv 1) pa_nil) (by decide)) (pa_cons (pe_xmkK xb_value T.X_InvalidIndex (ok_InvalidIndex_init T) (hr.mono (by decide)) T.kb_InvalidIndex passL (by rfl) T.g_InvalidIndex (pk_cons (pv 1) pk_nil)) (pa_cons (pe_lamv TB rfl lam_mem rfl lam_one) (pa_cons (pe_lst (pa_cons (pv 1) pa_nil)) pa_nil))))) pa_nil)))
      (pss_cons (ps_expr (pe_bm PySem.F.plainAttrs_list PySem.F.slot_list_append PySem.F.type_list_append mt_append (pv 2) (pa_cons (pe_tup (pa_cons (pe_xmk xb_value T.X_InvalidCode (ok_InvalidCode_init T) (hr.mono (by decide)) (kb_pos T.b_InvalidCode___init rfl) passL (by rfl) T.g_InvalidCode (pa_cons (pv 0) pa_nil) (by decide)) (pa_cons (pe_xmkK xb_value T.X_InvalidCode (ok_InvalidCode_init T) (hr.mono (by decide)) T.kb_InvalidCode passL (by rfl) T.g_InvalidCode (pk_cons (pv 0) pk_nil)) (pa_cons (pe_lamv TB rfl lam_mem rfl lam_one) (pa_cons (pe_lst (pa_cons (pv 0) pa_nil)) pa_nil))))) pa_nil)))
      (pss_cons (ps_expr (pe_bm PySem.F.plainAttrs_list PySem.F.slot_list_append PySem.F.type_list_append mt_append (pv 2) (pa_cons (pe_tup (pa_cons (pe_xmk xb_value T.X_InvalidMove (ok_InvalidMove_init T) (hr.mono (by decide)) (kb_pos T.b_InvalidMove___init rfl) passL (by rfl) T.g_InvalidMove (pa_cons (pe_tup (pa_cons (pv 1) (pa_cons pe_int pa_nil))) pa_nil) (by decide)) (pa_cons (pe_xmkK xb_value T.X_InvalidMove (ok_InvalidMove_init T) (hr.mono (by decide)) T.kb_InvalidMove passL (by rfl) T.g_InvalidMove (pk_cons (pe_tup (pa_cons (pv 1) (pa_cons pe_int pa_nil))) pk_nil)) (pa_cons (pe_lamv TB rfl lam_mem rfl lam_one) (pa_cons (pe_lst (pa_cons (pe_tup (pa_cons (pv 1) (pa_cons pe_int pa_nil))) pa_nil)) pa_nil))))) pa_nil)))
      (pss_cons (ps_expr (pe_bm PySem.F.plainAttrs_list PySem.F.slot_list_append PySem.F.type_list_append mt_append (pv 2) (pa_cons (pe_tup (pa_cons (pe_xmk xb_value T.X_InvalidNumber (ok_InvalidNumber_init T) (hr.mono (by decide)) (kb_pos T.b_InvalidNumber___init rfl) passL (by rfl) T.g_InvalidNumber (pa_cons (pv 1) pa_nil) (by decide)) (pa_cons (pe_xmkK xb_value T.X_InvalidNumber (ok_InvalidNumber_init T) (hr.mono (by decide)) T.kb_InvalidNumber passL (by rfl) T.g_InvalidNumber (pk_cons (pv 1) pk_nil)) (pa_cons (pe_lamv TB rfl lam_mem rfl lam_one) (pa_cons (pe_lst (pa_cons (pv 1) pa_nil)) pa_nil))))) pa_nil)))
      (pss_cons (ps_set (i := 3) sc_law_made.nd rfl (by first | exact Or.inl rfl | exact Or.inr rfl) (pe_lst (pa_cons (pv 0) (pa_cons (pe_op op_add (pv 0) pe_int) pa_nil))))
      (pss_cons (ps_expr (pe_bm PySem.F.plainAttrs_list PySem.F.slot_list_append PySem.F.type_list_append mt_append (pv 2) (pa_cons (pe_tup (pa_cons (pe_xmk xb_value T.X_WidthMismatch (ok_WidthMismatch_init T) (hr.mono (by decide)) (kb_pos T.b_WidthMismatch___init rfl) passL (by rfl) T.g_WidthMismatch (pa_cons (pv 0) (pa_cons (pe_op op_add (pv 0) pe_int) pa_nil)) (by decide)) (pa_cons (pe_xmkK xb_value T.X_WidthMismatch (ok_WidthMismatch_init T) (hr.mono (by decide)) T.kb_WidthMismatch passL (by rfl) T.g_WidthMismatch (pk_cons (pe_op op_add (pv 0) pe_int) (pk_cons (pv 0) pk_nil))) (pa_cons (pe_lamv TB rfl lam_mem rfl lam_one) (pa_cons (pv 3) pa_nil))))) pa_nil)))
      (pss_cons (ps_expr (pe_bm PySem.F.plainAttrs_list PySem.F.slot_list_append PySem.F.type_list_append mt_append (pv 2) (pa_cons (pe_tup (pa_cons (pe_xmk xb_value T.X_NotEquivalent (ok_NotEquivalent_init T) (hr.mono (by decide)) (kb_pos T.b_NotEquivalent___init rfl) passL (by rfl) T.g_NotEquivalent (pa_cons (pe_lst (pa_cons pe_int (pa_cons pe_int pa_nil))) pa_nil) (by decide)) (pa_cons (pe_xmkK xb_value T.X_NotEquivalent (ok_NotEquivalent_init T) (hr.mono (by decide)) T.kb_NotEquivalent passL (by rfl) T.g_NotEquivalent (pk_cons (pe_lst (pa_cons pe_int (pa_cons pe_int pa_nil))) pk_nil)) (pa_cons (pe_lamv TB rfl lam_mem rfl lam_one) (pa_cons (pe_lst (pa_cons (pe_lst (pa_cons pe_int (pa_cons pe_int pa_nil))) pa_nil)) pa_nil))))) pa_nil)))
      (pss_cons (ps_expr (pe_bm PySem.F.plainAttrs_list PySem.F.slot_list_append PySem.F.type_list_append mt_append (pv 2) (pa_cons (pe_tup (pa_cons (pe_xmk xb_value T.X_LimitExceeded (ok_LimitExceeded_init T) (hr.mono (by decide)) (kb_pos T.b_LimitExceeded___init rfl) passL (by rfl) T.g_LimitExceeded (pa_cons (pv 0) pa_nil) (by decide)) (pa_cons (pe_xmkK xb_value T.X_LimitExceeded (ok_LimitExceeded_init T) (hr.mono (by decide)) T.kb_LimitExceeded passL (by rfl) T.g_LimitExceeded (pk_cons (pv 0) pk_nil)) (pa_cons (pe_lamv TB rfl lam_mem rfl lam_one) (pa_cons (pe_lst (pa_cons (pv 0) pa_nil)) pa_nil))))) pa_nil)))
      (pss_cons (ps_expr (pe_bm PySem.F.plainAttrs_list PySem.F.slot_list_append PySem.F.type_list_append mt_append (pv 2) (pa_cons (pe_tup (pa_cons (pe_xmk xb_value T.X_ParseError (ok_ParseError_init T) (hr.mono (by decide)) (kb_pos T.b_ParseError___init rfl) passL (by rfl) T.g_ParseError (pa_cons (pv 0) pa_nil) (by decide)) (pa_cons (pe_xmkK xb_value T.X_ParseError (ok_ParseError_init T) (hr.mono (by decide)) T.kb_ParseError passL (by rfl) T.g_ParseError (pk_cons (pv 0) pk_nil)) (pa_cons (pe_lamv TB rfl lam_mem rfl lam_one) (pa_cons (pe_lst (pa_cons (pv 0) pa_nil)) pa_nil))))) pa_nil)))
      (pss_cons (ps_expr (pe_bm PySem.F.plainAttrs_list PySem.F.slot_list_append PySem.F.type_list_append mt_append (pv 2) (pa_cons (pe_tup (pa_cons (pe_xmk xb_value T.X_InvalidCommand (ok_InvalidCommand_init T) (hr.mono (by decide)) (kb_pos T.b_InvalidCommand___init rfl) passL (by rfl) T.g_InvalidCommand (pa_cons (pv 1) pa_nil) (by decide)) (pa_cons (pe_xmkK xb_value T.X_InvalidCommand (ok_InvalidCommand_init T) (hr.mono (by decide)) T.kb_InvalidCommand passL (by rfl) T.g_InvalidCommand (pk_cons (pv 1) pk_nil)) (pa_cons (pe_lamv TB rfl lam_mem rfl lam_one) (pa_cons (pe_lst (pa_cons (pv 1) pa_nil)) pa_nil))))) pa_nil)))
      (pss_cons (ps_expr (pe_bm PySem.F.plainAttrs_list PySem.F.slot_list_append PySem.F.type_list_append mt_append (pv 2) (pa_cons (pe_tup (pa_cons (pe_xmk xb_value T.X_InvalidChange (ok_InvalidChange_init T) (hr.mono (by decide)) (kb_pos T.b_InvalidChange___init rfl) passL (by rfl) T.g_InvalidChange (pa_cons (pv 0) pa_nil) (by decide)) (pa_cons (pe_xmkK xb_value T.X_InvalidChange (ok_InvalidChange_init T) (hr.mono (by decide)) T.kb_InvalidChange passL (by rfl) T.g_InvalidChange (pk_cons (pv 0) pk_nil)) (pa_cons (pe_lamv TB rfl lam_mem rfl lam_one) (pa_cons (pe_lst (pa_cons (pv 0) pa_nil)) pa_nil))))) pa_nil)))
      (pss_cons (ps_expr (pe_bm PySem.F.plainAttrs_list PySem.F.slot_list_append PySem.F.type_list_append mt_append (pv 2) (pa_cons (pe_tup (pa_cons (pe_xmk xb_value T.X_NothingToUndo (ok_NothingToUndo_init T) (hr.mono (by decide)) (kb_pos T.b_NothingToUndo___init rfl) passL (by rfl) T.g_NothingToUndo (pa_cons (pv 0) pa_nil) (by decide)) (pa_cons (pe_xmkK xb_value T.X_NothingToUndo (ok_NothingToUndo_init T) (hr.mono (by decide)) T.kb_NothingToUndo passL (by rfl) T.g_NothingToUndo (pk_cons (pv 0) pk_nil)) (pa_cons (pe_lamv TB rfl lam_mem rfl lam_one) (pa_cons (pe_lst (pa_cons (pv 0) pa_nil)) pa_nil))))) pa_nil)))
      (pss_cons (ps_expr (pe_bm PySem.F.plainAttrs_list PySem.F.slot_list_append PySem.F.type_list_append mt_append (pv 2) (pa_cons (pe_tup (pa_cons (pe_xmk xb_lookup T.X_UnknownName (ok_UnknownName_init T) (hr.mono (by decide)) (kb_pos T.b_UnknownName___init rfl) passL (by rfl) T.g_UnknownName (pa_cons (pv 1) pa_nil) (by decide)) (pa_cons (pe_xmkK xb_lookup T.X_UnknownName (ok_UnknownName_init T) (hr.mono (by decide)) T.kb_UnknownName passL (by rfl) T.g_UnknownName (pk_cons (pv 1) pk_nil)) (pa_cons (pe_lamv TB rfl lam_mem rfl lam_one) (pa_cons (pe_lst (pa_cons (pv 1) pa_nil)) pa_nil))))) pa_nil)))
      (pss_one (ps_ret (pv 2))))))))))))))))))), ?_⟩
    refine made_first (n := (("InvalidWidth" : Str), (["value"] : List Str), ([.int fig] : List PyData))) rfl rfl rfl rfl hT (dz_entN (lw_q qual_made rfl) (dz_xpos (dza_cons (dz_var rfl fun _ => .int _) dza_nil) rfl) (dz_xkw (dza_cons (dz_var rfl fun _ => .int _) dza_nil) rfl) (dz_lst (dza_cons (dz_var rfl fun _ => .int _) dza_nil) (by decide : 1 ≤ 100))) fun σ H1 m => ?_
    refine made_step (n := (("InvalidStep" : Str), (["index"] : List Str), ([.int fig] : List PyData))) rfl (by decide) m (fun r ts h2 hr => dz_entN (lw_q qual_made rfl) (dz_xpos (dza_cons (dz_var m.s0 fun _ => .int _) dza_nil) rfl) (dz_xkw (dza_cons (dz_var m.s0 fun _ => .int _) dza_nil) rfl) (dz_lst (dza_cons (dz_var m.s0 fun _ => .int _) dza_nil) (by decide : 1 ≤ 100))) fun H1 m => ?_
    refine made_step (n := (("InvalidValues" : Str), (["index"] : List Str), ([.none] : List PyData))) rfl (by decide) m (fun r ts h2 hr => dz_entN (lw_q qual_made rfl) (dz_xpos (dza_cons (dz_val fun _ => .non) dza_nil) rfl) (dz_xkw (dza_cons (dz_val fun _ => .non) dza_nil) rfl) (dz_lst (dza_cons (dz_val fun _ => .non) dza_nil) (by decide : 1 ≤ 100))) fun H1 m => ?_
    refine made_step (n := (("InvalidIndex" : Str), (["index"] : List Str), ([.str phr] : List PyData))) rfl (by decide) m (fun r ts h2 hr => dz_entN (lw_q qual_made rfl) (dz_xpos (dza_cons (dz_var m.s1 fun _ => .str _) dza_nil) rfl) (dz_xkw (dza_cons (dz_var m.s1 fun _ => .str _) dza_nil) rfl) (dz_lst (dza_cons (dz_var m.s1 fun _ => .str _) dza_nil) (by decide : 1 ≤ 100))) fun H1 m => ?_
    refine made_step (n := (("InvalidCode" : Str), (["index"] : List Str), ([.int fig] : List PyData))) rfl (by decide) m (fun r ts h2 hr => dz_entN (lw_q qual_made rfl) (dz_xpos (dza_cons (dz_var m.s0 fun _ => .int _) dza_nil) rfl) (dz_xkw (dza_cons (dz_var m.s0 fun _ => .int _) dza_nil) rfl) (dz_lst (dza_cons (dz_var m.s0 fun _ => .int _) dza_nil) (by decide : 1 ≤ 100))) fun H1 m => ?_
    refine made_step (n := (("InvalidMove" : Str), (["move"] : List Str), ([.tuple [.str phr, .int 1]] : List PyData))) rfl (by decide) m (fun r ts h2 hr => dz_entN (lw_q qual_made rfl) (dz_xpos (dza_cons (dz_tupD (dza_cons (dz_var m.s1 fun _ => .str _) (dza_cons (dz_val fun _ => .int 1) dza_nil)) (by decide : 2 ≤ 100)) dza_nil) rfl) (dz_xkw (dza_cons (dz_tupD (dza_cons (dz_var m.s1 fun _ => .str _) (dza_cons (dz_val fun _ => .int 1) dza_nil)) (by decide : 2 ≤ 100)) dza_nil) rfl) (dz_lst (dza_cons (dz_tupD (dza_cons (dz_var m.s1 fun _ => .str _) (dza_cons (dz_val fun _ => .int 1) dza_nil)) (by decide : 2 ≤ 100)) dza_nil) (by decide : 1 ≤ 100))) fun H1 m => ?_
    refine made_step (n := (("InvalidNumber" : Str), (["number"] : List Str), ([.str phr] : List PyData))) rfl (by decide) m (fun r ts h2 hr => dz_entN (lw_q qual_made rfl) (dz_xpos (dza_cons (dz_var m.s1 fun _ => .str _) dza_nil) rfl) (dz_xkw (dza_cons (dz_var m.s1 fun _ => .str _) dza_nil) rfl) (dz_lst (dza_cons (dz_var m.s1 fun _ => .str _) dza_nil) (by decide : 1 ≤ 100))) fun H1 m => ?_
    refine made_pair m fun σ H1 m pr => ?_
    refine made_step (n := (("WidthMismatch" : Str), (["first", "second"] : List Str), ([.int fig, .int (fig + 1)] : List PyData))) rfl (by decide) m (fun r ts h2 hr => dz_entN (lw_q qual_made rfl) (dz_xpos (dza_cons (dz_var m.s0 fun _ => .int _) (dza_cons (dz_plus1 m.s0) dza_nil)) rfl) (dz_xkw2 (dza_cons (dz_plus1 m.s0) (dza_cons (dz_var m.s0 fun _ => .int _) dza_nil))) (let ⟨l, zs, h3, h4⟩ := pr; dz_pair h3 (h4 r h2).1 (h4 r h2).2)) fun H1 m => ?_
    refine made_step (n := (("NotEquivalent" : Str), (["bits"] : List Str), ([.list [.int 1, .int 0]] : List PyData))) rfl (by decide) m (fun r ts h2 hr => dz_entN (lw_q qual_made rfl) (dz_xpos (dza_cons (dz_lstD (dza_cons (dz_val fun _ => .int 1) (dza_cons (dz_val fun _ => .int 0) dza_nil)) (by decide : 2 ≤ 100)) dza_nil) rfl) (dz_xkw (dza_cons (dz_lstD (dza_cons (dz_val fun _ => .int 1) (dza_cons (dz_val fun _ => .int 0) dza_nil)) (by decide : 2 ≤ 100)) dza_nil) rfl) (dz_lst (dza_cons (dz_lstD (dza_cons (dz_val fun _ => .int 1) (dza_cons (dz_val fun _ => .int 0) dza_nil)) (by decide : 2 ≤ 100)) dza_nil) (by decide : 1 ≤ 100))) fun H1 m => ?_
    refine made_step (n := (("LimitExceeded" : Str), (["count"] : List Str), ([.int fig] : List PyData))) rfl (by decide) m (fun r ts h2 hr => dz_entN (lw_q qual_made rfl) (dz_xpos (dza_cons (dz_var m.s0 fun _ => .int _) dza_nil) rfl) (dz_xkw (dza_cons (dz_var m.s0 fun _ => .int _) dza_nil) rfl) (dz_lst (dza_cons (dz_var m.s0 fun _ => .int _) dza_nil) (by decide : 1 ≤ 100))) fun H1 m => ?_
    refine made_step (n := (("ParseError" : Str), (["index"] : List Str), ([.int fig] : List PyData))) rfl (by decide) m (fun r ts h2 hr => dz_entN (lw_q qual_made rfl) (dz_xpos (dza_cons (dz_var m.s0 fun _ => .int _) dza_nil) rfl) (dz_xkw (dza_cons (dz_var m.s0 fun _ => .int _) dza_nil) rfl) (dz_lst (dza_cons (dz_var m.s0 fun _ => .int _) dza_nil) (by decide : 1 ≤ 100))) fun H1 m => ?_
    refine made_step (n := (("InvalidCommand" : Str), (["text"] : List Str), ([.str phr] : List PyData))) rfl (by decide) m (fun r ts h2 hr => dz_entN (lw_q qual_made rfl) (dz_xpos (dza_cons (dz_var m.s1 fun _ => .str _) dza_nil) rfl) (dz_xkw (dza_cons (dz_var m.s1 fun _ => .str _) dza_nil) rfl) (dz_lst (dza_cons (dz_var m.s1 fun _ => .str _) dza_nil) (by decide : 1 ≤ 100))) fun H1 m => ?_
    refine made_step (n := (("InvalidChange" : Str), (["index"] : List Str), ([.int fig] : List PyData))) rfl (by decide) m (fun r ts h2 hr => dz_entN (lw_q qual_made rfl) (dz_xpos (dza_cons (dz_var m.s0 fun _ => .int _) dza_nil) rfl) (dz_xkw (dza_cons (dz_var m.s0 fun _ => .int _) dza_nil) rfl) (dz_lst (dza_cons (dz_var m.s0 fun _ => .int _) dza_nil) (by decide : 1 ≤ 100))) fun H1 m => ?_
    refine made_step (n := (("NothingToUndo" : Str), (["count"] : List Str), ([.int fig] : List PyData))) rfl (by decide) m (fun r ts h2 hr => dz_entN (lw_q qual_made rfl) (dz_xpos (dza_cons (dz_var m.s0 fun _ => .int _) dza_nil) rfl) (dz_xkw (dza_cons (dz_var m.s0 fun _ => .int _) dza_nil) rfl) (dz_lst (dza_cons (dz_var m.s0 fun _ => .int _) dza_nil) (by decide : 1 ≤ 100))) fun H1 m => ?_
    refine made_step (n := (("UnknownName" : Str), (["name"] : List Str), ([.str phr] : List PyData))) rfl (by decide) m (fun r ts h2 hr => dz_entN (lw_q qual_made rfl) (dz_xpos (dza_cons (dz_var m.s1 fun _ => .str _) dza_nil) rfl) (dz_xkw (dza_cons (dz_var m.s1 fun _ => .str _) dza_nil) rfl) (dz_lst (dza_cons (dz_var m.s1 fun _ => .str _) dza_nil) (by decide : 1 ≤ 100))) fun H1 m => ?_
    obtain ⟨r, ts, h2, hr, he, hx⟩ := m.rs
    exact ⟨_, h2, k H1 r ts m.tb hr he hx⟩
end
end NS

set_option Elab.async false
set_option linter.all false
set_option maxRecDepth 100000
set_option maxHeartbeats 4000000
namespace NS
open PySem PySem.Spec PyProof.Rows L2 GX LamX NdefX
/-! ### the steps that every reading asks -/
/-- what stands at an address -/
local macro_rules | `(tactic| walk_at "hk") => `(tactic| first
  | assumption
  | exact upd_same
  | (refine Eq.trans (upd_ne ?hkne) ?hkr; (case hkne => walk_at "ne"); (case hkr => walk_at "hk")))
/-- two addresses differ -/
local macro_rules | `(tactic| walk_at "ne") => `(tactic| first
  | assumption
  | (apply Ne.symm; assumption)
  | (refine ne_of_none (H := ?nH) (o := ?nO) ?nea ?neb; (case neb => assumption); (case nea => walk_at "hk"))
  | (refine Ne.symm (ne_of_none (H := ?nH) (o := ?nO) ?nea ?neb); (case neb => assumption); (case nea => walk_at "hk")))
local macro_rules | `(tactic| walk_at "sq") => `(tactic| first
  | assumption
  | (refine SqL.of ?sqh; walk_at "hk")
  | (refine SqT.of ?sqh; walk_at "hk"))
local macro_rules | `(tactic| walk_at "ix") => `(tactic| first | exact rfl | assumption)
/-- a condition of an operator -/
local macro_rules | `(tactic| walk_at "op") => `(tactic| first
  | exact pos_lit (by decide)
  | exact div_lit (by decide)
  | exact divW_of (by first | assumption | omega) (by first | assumption | omega)
  | (show (0 : Int) < _; first | assumption | omega)
  | (show (_ ∧ _) ∨ (_ ∧ _); first | exact .inl ⟨by omega, by omega⟩ | exact .inr ⟨by omega, by omega⟩))
/-- one leaf -/
local macro_rules | `(tactic| walk_at "go1") => `(tactic| first
  | (refine ⟨_, rfl, ?_⟩)
  | (refine ⟨_, _, rfl, rfl, ?gop, ?_⟩; (case gop => walk_at "op"))
  | (refine ⟨_, _, rfl, rfl, ?_⟩)
  | (refine ⟨_, ?goxs, _, ?gov, rfl, rfl, ?gosq, ?goix, ?_⟩; (case gosq => walk_at "sq"); (case goix => walk_at "ix"))
  | (refine ⟨_, ?goxs, _, ?goj, rfl, rfl, ?gohk, ?goix, ?_⟩; (case gohk => walk_at "hk"); (case goix => walk_at "ix")))
local macro_rules | `(tactic| walk_at "go") => `(tactic| repeat walk_at "go1")

def spLm (K : PySem.W.Frag) : Addr → Sp := fun f vs H Q _ => ∃ (a : Addr) (i : Nat) (n : Str × List Str × List PyData) (xs : List V) (fig : Int) (phr : Str), vs = [.ref a] ∧ (ents fig phr)[i]? = some n ∧ IsLm H f (lamAt i) ∧ XO H a (fA K n.1) (fldsOf n.2.1 xs) ∧ xs.length = n.2.1.length ∧ ∀ p, H p = none → Q (.ref p) (upd H p (.lst xs))
section
variable {P : Program} {w : World} {K : PySem.W.Frag} {mg : Str → Option Value} {base : Heap}
theorem read1 (T : Txt K mg) {x f : Str} (hx : x ∈ exs) (hf : f ∈ flds) {a : Addr} {H : Hp} {y : V} {Q : VK} (xo : XO H a (fA K x) (fldsOf [f] [y])) (k : ∀ p, H p = none → Q (.ref p) (upd H p (.lst [y]))) : tLst (tCons (tXat K f (tVar 0)) tNil) (startF ["_law_e"] [V.ref a] []) H Q :=
  ⟨_, rfl, a, fA K x, mA K x "__init__", _, y, rfl, T.xcc hx, T.nf x hx f hf, xo, by simp [fldsOf, List.lookup], len_line (by decide : 1 ≤ 100), k⟩
theorem read2 (T : Txt K mg) {x f g : Str} (hx : x ∈ exs) (hf : f ∈ flds) (hg : g ∈ flds) (ne : (f == g) = false) {a : Addr} {H : Hp} {y z : V} {Q : VK} (xo : XO H a (fA K x) (fldsOf [f, g] [y, z])) (k : ∀ p, H p = none → Q (.ref p) (upd H p (.lst [y, z]))) :
    tLst (tCons (tXat K f (tVar 0)) (tCons (tXat K g (tVar 0)) tNil)) (startF ["_law_e"] [V.ref a] []) H Q :=
  ⟨_, rfl, a, fA K x, mA K x "__init__", _, y, rfl, T.xcc hx, T.nf x hx f hf, xo, by simp [fldsOf, List.lookup, ne], _, rfl, a, fA K x, mA K x "__init__", _, z, rfl, T.xcc hx, T.nf x hx g hg, xo, by simp [fldsOf, List.lookup], len_line (by decide : 2 ≤ 100), k⟩
theorem lm_gen {i : Nat} {t : TE} (S : NScope ["_law_e"] ["_law_e"] [] (lamAt i).scope) (hb : ∀ (c' : Addr) (pm ctv : Value) (us : List Value), us.length = (["_law_e"] : List Str).length → bindArgs ((lamAt i).fd c' pm ctv) ⟨us, []⟩ = pure ((["_law_e"] : List Str).zip us))
    {f' : Addr} {A : Around} {outer : List Env} {s : Shared} {H : Hp} {us : List Value} {a : Addr} {Q : VK} {Ex : XK} (hr : Room 1 A) (e0 : Env0 P w K mg base A outer s H) (l : IsLm H f' (lamAt i)) (r : Vals [V.ref a] us)
    (hp : ∀ c', PE (lcx (L2.CX P w) P w K mg base ["_law_e"] (lamAt i) f' c' A outer s H Ex) (lamAt i).body t) (q : t (startF ["_law_e"] [V.ref a] []) H Q) : codeAny (model P w) A (.call (.ref f') ⟨us, []⟩) (CR (L2.CX P w) outer P w H s Q Ex) s := by
  obtain ⟨c', h1, h2⟩ := l
  exact lam_run S (hb c') hr e0 h1 h2 r rfl fun _ => ⟨_, hp c', q⟩
theorem lm_all (T : Txt K mg) {A : Around} {outer : List Env} {Ex : XK} (hr : Room 1 A) (f : Addr) (W : LW) (s : Shared) (H : Hp) (us : List Value) (vs : List V) (Q : VK) (e0 : Env0 P w K mg base A outer s H) (_ : IsLm H f W) (r : Vals vs us) (h : spLm K f vs H Q Ex) : codeAny (model P w) A (.call (.ref f) ⟨us, []⟩) (CR (L2.CX P w) outer P w H s Q Ex) s := by
  obtain ⟨a, i, n, xs, fig, phr, rfl, hn, l, xo, hl, k⟩ := h
  match i, hn, l with
  | 0, hn, l =>
    cases (Option.some.inj hn)
    obtain ⟨y, rfl⟩ := List.length_eq_one_iff.mp hl
    exact lm_gen (nscope_by (by decide +kernel)) (fun _ _ _ us hl => match us, hl with | [_], _ => rfl) hr e0 l r (fun c' => pe_lst (pa_cons (pe_xat (pv 0)) pa_nil)) (read1 T (x := "InvalidWidth") (f := "value") (by decide) (by decide) xo k)
  | 1, hn, l =>
    cases (Option.some.inj hn)
    obtain ⟨y, rfl⟩ := List.length_eq_one_iff.mp hl
    exact lm_gen (nscope_by (by decide +kernel)) (fun _ _ _ us hl => match us, hl with | [_], _ => rfl) hr e0 l r (fun c' => pe_lst (pa_cons (pe_xat (pv 0)) pa_nil)) (read1 T (x := "InvalidStep") (f := "index") (by decide) (by decide) xo k)
  | 2, hn, l =>
    cases (Option.some.inj hn)
    obtain ⟨y, rfl⟩ := List.length_eq_one_iff.mp hl
    exact lm_gen (nscope_by (by decide +kernel)) (fun _ _ _ us hl => match us, hl with | [_], _ => rfl) hr e0 l r (fun c' => pe_lst (pa_cons (pe_xat (pv 0)) pa_nil)) (read1 T (x := "InvalidValues") (f := "index") (by decide) (by decide) xo k)
  | 3, hn, l =>
    cases (Option.some.inj hn)
    obtain ⟨y, rfl⟩ := List.length_eq_one_iff.mp hl
    exact lm_gen (nscope_by (by decide +kernel)) (fun _ _ _ us hl => match us, hl with | [_], _ => rfl) hr e0 l r (fun c' => pe_lst (pa_cons (pe_xat (pv 0)) pa_nil)) (read1 T (x := "InvalidIndex") (f := "index") (by decide) (by decide) xo k)
  | 4, hn, l =>
    cases (Option.some.inj hn)
    obtain ⟨y, rfl⟩ := List.length_eq_one_iff.mp hl
    exact lm_gen (nscope_by (by decide +kernel)) (fun _ _ _ us hl => match us, hl with | [_], _ => rfl) hr e0 l r (fun c' => pe_lst (pa_cons (pe_xat (pv 0)) pa_nil)) (read1 T (x := "InvalidCode") (f := "index") (by decide) (by decide) xo k)
  | 5, hn, l =>
    cases (Option.some.inj hn)
    obtain ⟨y, rfl⟩ := List.length_eq_one_iff.mp hl
    exact lm_gen (nscope_by (by decide +kernel)) (fun _ _ _ us hl => match us, hl with | [_], _ => rfl) hr e0 l r (fun c' => pe_lst (pa_cons (pe_xat (pv 0)) pa_nil)) (read1 T (x := "InvalidMove") (f := "move") (by decide) (by decide) xo k)
  | 6, hn, l =>
    cases (Option.some.inj hn)
    obtain ⟨y, rfl⟩ := List.length_eq_one_iff.mp hl
    exact lm_gen (nscope_by (by decide +kernel)) (fun _ _ _ us hl => match us, hl with | [_], _ => rfl) hr e0 l r (fun c' => pe_lst (pa_cons (pe_xat (pv 0)) pa_nil)) (read1 T (x := "InvalidNumber") (f := "number") (by decide) (by decide) xo k)
  | 7, hn, l =>
    cases (Option.some.inj hn)
    obtain ⟨y, z, rfl⟩ : ∃ y z, xs = [y, z] := match xs, hl with | [y, z], _ => ⟨y, z, rfl⟩
    exact lm_gen (nscope_by (by decide +kernel)) (fun _ _ _ us hl => match us, hl with | [_], _ => rfl) hr e0 l r (fun c' => pe_lst (pa_cons (pe_xat (pv 0)) (pa_cons (pe_xat (pv 0)) pa_nil))) (read2 T (x := "WidthMismatch") (f := "first") (g := "second") (by decide) (by decide) (by decide) (by decide) xo k)
  | 8, hn, l =>
    cases (Option.some.inj hn)
    obtain ⟨y, rfl⟩ := List.length_eq_one_iff.mp hl
    exact lm_gen (nscope_by (by decide +kernel)) (fun _ _ _ us hl => match us, hl with | [_], _ => rfl) hr e0 l r (fun c' => pe_lst (pa_cons (pe_xat (pv 0)) pa_nil)) (read1 T (x := "NotEquivalent") (f := "bits") (by decide) (by decide) xo k)
  | 9, hn, l =>
    cases (Option.some.inj hn)
    obtain ⟨y, rfl⟩ := List.length_eq_one_iff.mp hl
    exact lm_gen (nscope_by (by decide +kernel)) (fun _ _ _ us hl => match us, hl with | [_], _ => rfl) hr e0 l r (fun c' => pe_lst (pa_cons (pe_xat (pv 0)) pa_nil)) (read1 T (x := "LimitExceeded") (f := "count") (by decide) (by decide) xo k)
  | 10, hn, l =>
    cases (Option.some.inj hn)
    obtain ⟨y, rfl⟩ := List.length_eq_one_iff.mp hl
    exact lm_gen (nscope_by (by decide +kernel)) (fun _ _ _ us hl => match us, hl with | [_], _ => rfl) hr e0 l r (fun c' => pe_lst (pa_cons (pe_xat (pv 0)) pa_nil)) (read1 T (x := "ParseError") (f := "index") (by decide) (by decide) xo k)
  | 11, hn, l =>
    cases (Option.some.inj hn)
    obtain ⟨y, rfl⟩ := List.length_eq_one_iff.mp hl
    exact lm_gen (nscope_by (by decide +kernel)) (fun _ _ _ us hl => match us, hl with | [_], _ => rfl) hr e0 l r (fun c' => pe_lst (pa_cons (pe_xat (pv 0)) pa_nil)) (read1 T (x := "InvalidCommand") (f := "text") (by decide) (by decide) xo k)
  | 12, hn, l =>
    cases (Option.some.inj hn)
    obtain ⟨y, rfl⟩ := List.length_eq_one_iff.mp hl
    exact lm_gen (nscope_by (by decide +kernel)) (fun _ _ _ us hl => match us, hl with | [_], _ => rfl) hr e0 l r (fun c' => pe_lst (pa_cons (pe_xat (pv 0)) pa_nil)) (read1 T (x := "InvalidChange") (f := "index") (by decide) (by decide) xo k)
  | 13, hn, l =>
    cases (Option.some.inj hn)
    obtain ⟨y, rfl⟩ := List.length_eq_one_iff.mp hl
    exact lm_gen (nscope_by (by decide +kernel)) (fun _ _ _ us hl => match us, hl with | [_], _ => rfl) hr e0 l r (fun c' => pe_lst (pa_cons (pe_xat (pv 0)) pa_nil)) (read1 T (x := "NothingToUndo") (f := "count") (by decide) (by decide) xo k)
  | 14, hn, l =>
    cases (Option.some.inj hn)
    obtain ⟨y, rfl⟩ := List.length_eq_one_iff.mp hl
    exact lm_gen (nscope_by (by decide +kernel)) (fun _ _ _ us hl => match us, hl with | [_], _ => rfl) hr e0 l r (fun c' => pe_lst (pa_cons (pe_xat (pv 0)) pa_nil)) (read1 T (x := "UnknownName") (f := "name") (by decide) (by decide) xo k)
  | j + 15, hn, l => simp [ents] at hn
end
end NS

set_option Elab.async false
set_option linter.all false
set_option maxRecDepth 100000
set_option maxHeartbeats 4000000
namespace NS
open PySem PySem.Spec PyProof.Rows L2 GX LamX NdefX
theorem keeps_ext {H H' : Hp} (h : Keeps H H') : ExtN H H' := ExtN.of h
def BS (i : Nat) : List Bool := (List.range 15).map fun s => s == i
theorem bs_data : ∀ i, i < 15 → SeqAt.shaped (.list ((BS i).map .bool)) = true ∧ PyData.eqv (.list ((BS i).map .bool)) (.list ((BS i).map .bool)) = true := by decide +kernel
theorem bs_exs : ∀ i, i < 15 → ∀ x, exs[i]? = some x → exs.map (fun y => x == y) = BS i := by
  intro i hi x hx
  have key : ∀ i, i < 15 → (exs.map fun y => (exs.getD i "") == y) = BS i := by decide +kernel
  have e : exs.getD i "" = x := by rw [List.getD_eq_getElem?_getD, hx]; rfl
  rw [← e]
  exact key i hi
theorem dpA_bl {K : PySem.W.Frag} {H : Hp} : ∀ bs : List Bool, DpAll K H (bs.map V.bl) (bs.map PyData.bool)
  | [] => .nil
  | b :: bs => .cons (.bl b) (dpA_bl bs)
def phrs : List Str := ["", "drop", "a b", "7"]
theorem ents_name {fig : Int} {phr : Str} (hp : phr ∈ phrs) {i : Nat} {n : Str × List Str × List PyData} (h : (ents fig phr)[i]? = some n) : i < 15 ∧ exs[i]? = some n.1 ∧ n.1 ∈ exs ∧ n.2.2.length = n.2.1.length ∧ SeqAt.shaped (.list n.2.2) = true ∧ PyData.eqv (.list n.2.2) (.list n.2.2) = true := by
  have h1 : phr = "" ∨ phr = "drop" ∨ phr = "a b" ∨ phr = "7" := by simpa [phrs] using hp
  have hs : PyData.strOk phr = true := by rcases h1 with rfl | rfl | rfl | rfl <;> decide +kernel
  match i, h with
  | 0, h => cases Option.some.inj h; exact ⟨by decide, rfl, (by decide : (("InvalidWidth" : Str) ∈ exs)), rfl, by first | rfl | (rcases h1 with rfl | rfl | rfl | rfl <;> rfl) | simp [SeqAt.shaped, PyData.canLay0, PyData.canLayAll0, PyData.depth, PyData.depthAll, hs], by first | rfl | simp [PyData.eqv, PyData.eqvAll]⟩
  | 1, h => cases Option.some.inj h; exact ⟨by decide, rfl, (by decide : (("InvalidStep" : Str) ∈ exs)), rfl, by first | rfl | (rcases h1 with rfl | rfl | rfl | rfl <;> rfl) | simp [SeqAt.shaped, PyData.canLay0, PyData.canLayAll0, PyData.depth, PyData.depthAll, hs], by first | rfl | simp [PyData.eqv, PyData.eqvAll]⟩
  | 2, h => cases Option.some.inj h; exact ⟨by decide, rfl, (by decide : (("InvalidValues" : Str) ∈ exs)), rfl, by first | rfl | (rcases h1 with rfl | rfl | rfl | rfl <;> rfl) | simp [SeqAt.shaped, PyData.canLay0, PyData.canLayAll0, PyData.depth, PyData.depthAll, hs], by first | rfl | simp [PyData.eqv, PyData.eqvAll]⟩
  | 3, h => cases Option.some.inj h; exact ⟨by decide, rfl, (by decide : (("InvalidIndex" : Str) ∈ exs)), rfl, by first | rfl | (rcases h1 with rfl | rfl | rfl | rfl <;> rfl) | simp [SeqAt.shaped, PyData.canLay0, PyData.canLayAll0, PyData.depth, PyData.depthAll, hs], by first | rfl | simp [PyData.eqv, PyData.eqvAll]⟩
  | 4, h => cases Option.some.inj h; exact ⟨by decide, rfl, (by decide : (("InvalidCode" : Str) ∈ exs)), rfl, by first | rfl | (rcases h1 with rfl | rfl | rfl | rfl <;> rfl) | simp [SeqAt.shaped, PyData.canLay0, PyData.canLayAll0, PyData.depth, PyData.depthAll, hs], by first | rfl | simp [PyData.eqv, PyData.eqvAll]⟩
  | 5, h => cases Option.some.inj h; exact ⟨by decide, rfl, (by decide : (("InvalidMove" : Str) ∈ exs)), rfl, by first | rfl | (rcases h1 with rfl | rfl | rfl | rfl <;> rfl) | simp [SeqAt.shaped, PyData.canLay0, PyData.canLayAll0, PyData.depth, PyData.depthAll, hs], by first | rfl | simp [PyData.eqv, PyData.eqvAll]⟩
  | 6, h => cases Option.some.inj h; exact ⟨by decide, rfl, (by decide : (("InvalidNumber" : Str) ∈ exs)), rfl, by first | rfl | (rcases h1 with rfl | rfl | rfl | rfl <;> rfl) | simp [SeqAt.shaped, PyData.canLay0, PyData.canLayAll0, PyData.depth, PyData.depthAll, hs], by first | rfl | simp [PyData.eqv, PyData.eqvAll]⟩
  | 7, h => cases Option.some.inj h; exact ⟨by decide, rfl, (by decide : (("WidthMismatch" : Str) ∈ exs)), rfl, by first | rfl | (rcases h1 with rfl | rfl | rfl | rfl <;> rfl) | simp [SeqAt.shaped, PyData.canLay0, PyData.canLayAll0, PyData.depth, PyData.depthAll, hs], by first | rfl | simp [PyData.eqv, PyData.eqvAll]⟩
  | 8, h => cases Option.some.inj h; exact ⟨by decide, rfl, (by decide : (("NotEquivalent" : Str) ∈ exs)), rfl, by first | rfl | (rcases h1 with rfl | rfl | rfl | rfl <;> rfl) | simp [SeqAt.shaped, PyData.canLay0, PyData.canLayAll0, PyData.depth, PyData.depthAll, hs], by first | rfl | simp [PyData.eqv, PyData.eqvAll]⟩
  | 9, h => cases Option.some.inj h; exact ⟨by decide, rfl, (by decide : (("LimitExceeded" : Str) ∈ exs)), rfl, by first | rfl | (rcases h1 with rfl | rfl | rfl | rfl <;> rfl) | simp [SeqAt.shaped, PyData.canLay0, PyData.canLayAll0, PyData.depth, PyData.depthAll, hs], by first | rfl | simp [PyData.eqv, PyData.eqvAll]⟩
  | 10, h => cases Option.some.inj h; exact ⟨by decide, rfl, (by decide : (("ParseError" : Str) ∈ exs)), rfl, by first | rfl | (rcases h1 with rfl | rfl | rfl | rfl <;> rfl) | simp [SeqAt.shaped, PyData.canLay0, PyData.canLayAll0, PyData.depth, PyData.depthAll, hs], by first | rfl | simp [PyData.eqv, PyData.eqvAll]⟩
  | 11, h => cases Option.some.inj h; exact ⟨by decide, rfl, (by decide : (("InvalidCommand" : Str) ∈ exs)), rfl, by first | rfl | (rcases h1 with rfl | rfl | rfl | rfl <;> rfl) | simp [SeqAt.shaped, PyData.canLay0, PyData.canLayAll0, PyData.depth, PyData.depthAll, hs], by first | rfl | simp [PyData.eqv, PyData.eqvAll]⟩
  | 12, h => cases Option.some.inj h; exact ⟨by decide, rfl, (by decide : (("InvalidChange" : Str) ∈ exs)), rfl, by first | rfl | (rcases h1 with rfl | rfl | rfl | rfl <;> rfl) | simp [SeqAt.shaped, PyData.canLay0, PyData.canLayAll0, PyData.depth, PyData.depthAll, hs], by first | rfl | simp [PyData.eqv, PyData.eqvAll]⟩
  | 13, h => cases Option.some.inj h; exact ⟨by decide, rfl, (by decide : (("NothingToUndo" : Str) ∈ exs)), rfl, by first | rfl | (rcases h1 with rfl | rfl | rfl | rfl <;> rfl) | simp [SeqAt.shaped, PyData.canLay0, PyData.canLayAll0, PyData.depth, PyData.depthAll, hs], by first | rfl | simp [PyData.eqv, PyData.eqvAll]⟩
  | 14, h => cases Option.some.inj h; exact ⟨by decide, rfl, (by decide : (("UnknownName" : Str) ∈ exs)), rfl, by first | rfl | (rcases h1 with rfl | rfl | rfl | rfl <;> rfl) | simp [SeqAt.shaped, PyData.canLay0, PyData.canLayAll0, PyData.depth, PyData.depthAll, hs], by first | rfl | simp [PyData.eqv, PyData.eqvAll]⟩
  | j + 15, h => simp [ents] at h
theorem lc15 {H : Hp} {σ : L2.St} {i : Nat} {Q : VK} (hl : σ.length = 12) (h5 : σ[5]? = some (some (.int i))) (k : ∀ D H', Keeps H H' → H' D = some (.lst ((BS i).map V.bl)) → Q (.ref D) H') :
    tLc (iRng1 (tCons (tC (V.int 15)) tNil)) (gName 11) tYes (tOp rEq (tVar 11) (tVar 5)) [11] σ H Q := by
  refine ⟨15, rfl, by decide, by decide, fun D hD => lc_range (lo := 0) (n := 15) (Pv := fun j H' => Keeps H H' ∧ H' D = some (.lst ((List.range j).map fun s => V.bl (s == i)))) ⟨(Keeps.refl H).upd hD, upd_same⟩ (fun j H' hj ⟨hk, hL⟩ => ?_) fun H' ⟨hk, hL⟩ => k D H' hk (by rw [hL]; rfl)⟩
  refine ⟨by simp [wipe], ?_⟩
  unfold tYes
  simp only [if_true]
  refine ⟨.int (0 + j), by simp [wipe, hl], .int i, by simp [wipe, h5], rfl, _, hL, ?_, ?_, ?_⟩
  · rw [List.length_map, List.length_range]; exact Nat.lt_of_lt_of_le hj (len_line (by decide : 15 ≤ 100))
  · exact fun b u e => (upd_ne (ne_of_none e hD)).trans (hk b u e)
  · rw [upd_same, List.range_succ, List.map_append]
    congr 3
    show [V.bl (decide (V.int (0 + (j : Int)) = V.int (i : Int)))] = [V.bl (j == i)]
    congr 2
    rw [Bool.eq_iff_iff]
    simp
    exact Int.ofNat_inj
theorem un_at : ∀ i : Nat, i < 15 → ∀ x : Str, exs[i]? = some x → (x != "UnknownName") = decide ((i : Int) < 14) ∧ (x == "UnknownName") = decide ((i : Int) = 14) := by
  intro i hi x hx
  have key : ∀ i : Nat, i < 15 → ((exs.getD i "") != "UnknownName") = decide ((i : Int) < 14) ∧ ((exs.getD i "") == "UnknownName") = decide ((i : Int) = 14) := by decide +kernel
  have e : exs.getD i "" = x := by rw [List.getD_eq_getElem?_getD, hx]; rfl
  rw [← e]
  exact key i hi
/-- a test that says no and only makes new things -/
def Fal (K : PySem.W.Frag) (σ : L2.St) (H : Hp) (t : TT) : Prop := ∀ R : Bool → Hp → Prop, (∀ H1, ExtN H H1 → TabsN (lTs K) H1 → R false H1) → t σ H R
section
variable {K : PySem.W.Frag} {mg : Str → Option Value} {H H0 : Hp} {σ : L2.St} {t u : TT} {D : Ends} {fig : Int} {phr : Str} {ts : List V} {a r : Addr} {i : Nat} {n : Str × List Str × List PyData}
theorem fal_or (h : Fal K σ H t) (k : ∀ H1, ExtN H H1 → TabsN (lTs K) H1 → Fal K σ H1 u) : Fal K σ H (tOr t u) := fun R hR => h _ fun H1 e1 t1 => by
  show if false = true then _ else _
  rw [if_neg Bool.false_ne_true]
  exact k H1 e1 t1 R fun H2 e2 t2 => hR H2 (e1.trans e2) t2
theorem fal_if {x y : TS} (h : Fal K σ H t) (k : ∀ H1, ExtN H H1 → TabsN (lTs K) H1 → y D σ H1) : tIfS t x y D σ H := h _ fun H1 e1 t1 => by
  show if false = true then _ else _
  rw [if_neg Bool.false_ne_true]
  exact k H1 e1 t1
theorem fal_lm {j : Nat} {f e l : Addr} {xs zs : List V} (hp : phr ∈ phrs) (hT : TabsN (lTs K) H) (hn : (ents fig phr)[i]? = some n) (h8 : σ[8]? = some (some (.ref f))) (hj : σ[j]? = some (some (.ref e))) (h9 : σ[9]? = some (some (.ref l))) (lm : IsLm H f (lamAt i)) (xo : XO H e (fA K n.1) (fldsOf n.2.1 xs)) (dx : DpAll K H xs n.2.2)
    (hl : H l = some (.lst zs)) (dz : DpAll K H zs n.2.2) : Fal K σ H (tTest (tOp (rNeD K) (tCallL 8 (tCons (tVar j) tNil) (spLm K) E0) (tVar 9))) := fun R hR => by
  obtain ⟨_, _, _, hlen, hs, hq⟩ := ents_name hp hn
  refine ⟨f, lamAt i, h8, lm, .ref e, hj, lm, e, i, n, xs, fig, phr, rfl, hn, lm, xo, (dpA_len dx).trans hlen, fun p hp' => ⟨.ref l, h9, .list n.2.2, .list n.2.2, .lst (SqL.of upd_same) (dpA_ext (ext_upd hp') _ dx), .lst (SqL.of ((upd_ne (ne_of_none hl hp')).trans hl)) (dpA_ext (ext_upd hp') _ dz), hs, hs, _, rfl, ?_⟩⟩
  rw [hq]
  exact hR _ (ext_upd hp') (tabs_upd hT hp')
theorem fal_cl (hp : phr ∈ phrs) {e : Addr} {fs : List (Str × V)} (hT : TabsN (lTs K) H) (hn : (ents fig phr)[i]? = some n) (hl : σ.length = 12) (h10 : σ[10]? = some (some (.ref e))) (h5 : σ[5]? = some (some (.int i))) (xo : XO H e (fA K n.1) fs) :
    Fal K σ H (tTest (tOp (rNeD K) (tCall (spClasses K) [] E0 (tCons (tVar 10) tNil)) (tLc (iRng1 (tCons (tC (V.int 15)) tNil)) (gName 11) tYes (tOp rEq (tVar 11) (tVar 5)) [11]))) := fun R hR => by
  obtain ⟨hi, hx, hm, _⟩ := ents_name hp hn
  obtain ⟨hs, hq⟩ := bs_data i hi
  refine ⟨.ref e, h10, e, n.1, fs, rfl, hm, xo, fun H1 p k1 h1 => lc15 hl h5 fun q H2 k2 h2 => ⟨_, _, .lst (SqL.of (k2 _ _ h1)) ?_, .lst (SqL.of h2) (dpA_bl _), hs, hs, _, rfl, ?_⟩⟩
  · have z := dpA_bl (K := K) (H := H2) (BS i)
    rw [← bs_exs i hi _ hx, List.map_map] at z
    rw [← bs_exs i hi _ hx]
    exact z
  · rw [hq]
    exact hR _ ((keeps_ext k1).trans (keeps_ext k2)) ((hT.ext k1).ext k2)
theorem fal_ba (hp : phr ∈ phrs) {e : Addr} {fs : List (Str × V)} (hT : TabsN (lTs K) H) (hn : (ents fig phr)[i]? = some n) (h10 : σ[10]? = some (some (.ref e))) (h5 : σ[5]? = some (some (.int i))) (xo : XO H e (fA K n.1) fs) :
    Fal K σ H (tNot (tB (tCall (spBases K) [] E0 (tCons (tVar 10) (tCons (tVar 5) tNil))))) := fun R hR => by
  obtain ⟨hi, hx, hm, _⟩ := ents_name hp hn
  obtain ⟨h1, h2⟩ := un_at i hi _ hx
  exact ⟨.ref e, h10, .int i, h5, e, n.1, fs, i, rfl, hm, xo, h1, h2, true, rfl, hR H (ExtN.refl H) hT⟩
/-- amid the walk of the entries -/
structure Lo (K : PySem.W.Frag) (H0 : Hp) (a r : Addr) (fig : Int) (phr : Str) (ts : List V) (σ : L2.St) (H : Hp) : Prop where
  len : σ.length = 12
  s0 : σ[0]? = some (some (.ref a))
  ex : ExtN H0 H
  tb : TabsN (lTs K) H
  hr : H r = some (.lst ts)
  en : Ents K fig phr 15 ts H
theorem Lo.go {H' : Hp} (m : Lo K H0 a r fig phr ts σ H) (e : ExtN H H') (t : TabsN (lTs K) H') : Lo K H0 a r fig phr ts σ H' := ⟨m.len, m.s0, m.ex.trans e, t, e _ _ m.hr (fun _ q => nomatch q), ents_ext e m.en⟩
theorem Lo.put (m : Lo K H0 a r fig phr ts σ H) {j : Nat} {v : Option V} (hj : j ≠ 0) : Lo K H0 a r fig phr ts (σ.set j v) H := ⟨by rw [List.length_set]; exact m.len, by rw [List.getElem?_set_ne hj]; exact m.s0, m.ex, m.tb, m.hr, m.en⟩
/-- the two exceptions of an entry -/
theorem two_ok (hp : phr ∈ phrs) {e1 e2 : Addr} {f1 f2 : List (Str × V)} (hn : (ents fig phr)[i]? = some n) (m : Lo K H0 a r fig phr ts σ H) (h5 : σ[5]? = some (some (.int i))) (h6 : σ[6]? = some (some (.ref e1))) (h7 : σ[7]? = some (some (.ref e2))) (x1 : XO H e1 (fA K n.1) f1) (x2 : XO H e2 (fA K n.1) f2)
    (k : ∀ σ' H', Lo K H0 a r fig phr ts σ' H' → D.nx σ' H') :
    tFor (iList K (tLst (tCons (tVar 6) (tCons (tVar 7) tNil)))) (gName 10) (tIfS (tOr (tTest (tOp (rNeD K) (tCall (spClasses K) [] E0 (tCons (tVar 10) tNil)) (tLc (iRng1 (tCons (tC (V.int 15)) tNil)) (gName 11) tYes (tOp rEq (tVar 11) (tVar 5)) [11]))) (tNot (tB (tCall (spBases K) [] E0 (tCons (tVar 10) (tCons (tVar 5) tNil)))))) (tRet (tC (V.bl false))) tNext) D σ H := by
  refine ⟨.ref e1, h6, .ref e2, h7, len_line (by decide : 2 ≤ 100), fun q hq => ⟨q, rfl, ⟨_, SqL.of upd_same⟩, ?_⟩⟩
  refine for_list (xs := [.ref e1, .ref e2]) (fun j σ' H' => Lo K H0 a r fig phr ts σ' H' ∧ σ'[5]? = some (some (.int i)) ∧ H' q = some (.lst [.ref e1, .ref e2]) ∧ XO H' e1 (fA K n.1) f1 ∧ XO H' e2 (fA K n.1) f2) ⟨m.go (ext_upd hq) (tabs_upd m.tb hq), h5, upd_same, xo_ext (ext_upd hq) x1, xo_ext (ext_upd hq) x2⟩ (fun j σ' H' _ z => SqL.of z.2.2.1) (fun j x σ' H' hx ⟨m', s5, hq', y1, y2⟩ => ?_) fun σ' H' z => k σ' H' z.1
  obtain ⟨e, fs, rfl, xo⟩ : ∃ e fs, x = .ref e ∧ XO H' e (fA K n.1) fs := by
    match j, hx with
    | 0, hx => cases hx; exact ⟨_, _, rfl, y1⟩
    | 1, hx => cases hx; exact ⟨_, _, rfl, y2⟩
    | j + 2, hx => simp at hx
  have m2 := m'.put (j := 10) (v := some (.ref e)) (by decide)
  have s10 : (σ'.set 10 (some (V.ref e)))[10]? = some (some (.ref e)) := List.getElem?_set_self (by rw [m'.len]; decide)
  have s5' : (σ'.set 10 (some (V.ref e)))[5]? = some (some (.int i)) := by rw [List.getElem?_set_ne (by decide)]; exact s5
  refine fal_if (fal_or (fal_cl hp m2.tb hn m2.len s10 s5' xo) fun H1 z1 t1 => fal_ba hp t1 hn s10 s5' (xo_ext z1 xo)) fun H1 z1 t1 => ?_
  exact ⟨m2.go z1 t1, s5', z1 _ _ hq' (fun _ q => nomatch q), xo_ext z1 y1, xo_ext z1 y2⟩
/-- the walk of the entries -/
theorem walk_ok {m1 m2 : Nat} (e1 : m1 = 2) (e2 : m2 = 4) (hp : phr ∈ phrs) (h0 : σ.length = 12) (ha : σ[0]? = some (some (.ref a))) (h3 : σ[3]? = some (some (.int fig))) (h4 : σ[4]? = some (some (.str phr))) (hx : ExtN H0 H) (hT : TabsN (lTs K) H) (k : ∀ σ' H', σ'.length = 12 → σ'[0]? = some (some (.ref a)) → ExtN H0 H' → TabsN (lTs K) H' → D.nx σ' H') :
    tFor (iEnum K (tCons (tCall (spMade K) [] E0 (tCons (tVar 3) (tCons (tVar 4) tNil))) tNil)) (gTup K m1 (gCons (gName 5) (gCons (gTup K m2 (gCons (gName 6) (gCons (gName 7) (gCons (gName 8) (gCons (gName 9) gNil))))) gNil)))
      (tSeq (tIfS (tOr (tTest (tOp (rNeD K) (tCallL 8 (tCons (tVar 6) tNil) (spLm K) E0) (tVar 9))) (tTest (tOp (rNeD K) (tCallL 8 (tCons (tVar 7) tNil) (spLm K) E0) (tVar 9)))) (tRet (tC (V.bl false))) tNext)
        (tFor (iList K (tLst (tCons (tVar 6) (tCons (tVar 7) tNil)))) (gName 10) (tIfS (tOr (tTest (tOp (rNeD K) (tCall (spClasses K) [] E0 (tCons (tVar 10) tNil)) (tLc (iRng1 (tCons (tC (V.int 15)) tNil)) (gName 11) tYes (tOp rEq (tVar 11) (tVar 5)) [11]))) (tNot (tB (tCall (spBases K) [] E0 (tCons (tVar 10) (tCons (tVar 5) tNil)))))) (tRet (tC (V.bl false))) tNext))) D σ H := by
  subst e1 e2
  refine ⟨_, h3, _, h4, fig, phr, rfl, hT, fun H1 r ts t1 hr he hxe => ?_⟩
  have x1 : ExtN H H1 := hxe.trans (dr_extH _ _)
  have m0 : Lo K H0 a r fig phr ts σ H1 := ⟨h0, ha, hx.trans x1, t1, hr, ents_ext (dr_extH _ _) he⟩
  refine ⟨r, ts, rfl, SqL.of hr, fun i m σ' H' => m = 15 - i ∧ i ≤ 15 ∧ Lo K H0 a r fig phr ts σ' H', ⟨15, rfl, by omega, m0⟩, ?_⟩
  rintro i m σ' H' ⟨rfl, hi, l⟩
  by_cases hlt : i < 15
  · obtain ⟨v, n, hv, hn, t, e1, e2, f, q, xs, ys, zs, rfl, ht, x1, d1, x2, d2, lm, hq, dz⟩ := l.en.2 i hlt
    refine .inr ⟨⟨ts, _, SqL.of l.hr, hv⟩, fun σ2 H2 => Lo K H0 a r fig phr ts σ2 H2, fun σ2 H2 l2 => ⟨15 - (i + 1), by omega, rfl, hlt, l2⟩, fun x H2 y => ?_⟩
    obtain ⟨T, y0, rfl, hT0, rfl, hy⟩ := y
    have ey : y0 = V.ref t := by
      have z := hy ts (SqL.of l.hr)
      rw [hv] at z
      exact (Option.some.inj z).symm
    subst ey
    have eT := ext_upd (o := .tup [.int (i : Nat), .ref t]) hT0
    have l2 := l.go eT (tabs_upd l.tb hT0)
    refine ⟨T, _, rfl, SqT.of upd_same, rfl, _, _, rfl, _, _, rfl, t, _, rfl, SqT.of (eT _ _ ht (fun _ q => nomatch q)), rfl, _, _, rfl, _, _, rfl, _, _, rfl, _, _, rfl, rfl, rfl, ?_⟩
    have l5 := ((((l2.put (j := 5) (v := some (.int (i : Nat))) (by decide)).put (j := 6) (v := some (.ref e1)) (by decide)).put (j := 7) (v := some (.ref e2)) (by decide)).put (j := 8) (v := some (.ref f)) (by decide)).put (j := 9) (v := some (.ref q)) (by decide)
    have hlen := l.len
    have s5 : (((((σ'.set 5 (some (V.int (i : Nat)))).set 6 (some (V.ref e1))).set 7 (some (V.ref e2))).set 8 (some (V.ref f))).set 9 (some (V.ref q)))[5]? = some (some (.int i)) := by simp [hlen]
    have s6 : (((((σ'.set 5 (some (V.int (i : Nat)))).set 6 (some (V.ref e1))).set 7 (some (V.ref e2))).set 8 (some (V.ref f))).set 9 (some (V.ref q)))[6]? = some (some (.ref e1)) := by simp [hlen]
    have s7 : (((((σ'.set 5 (some (V.int (i : Nat)))).set 6 (some (V.ref e1))).set 7 (some (V.ref e2))).set 8 (some (V.ref f))).set 9 (some (V.ref q)))[7]? = some (some (.ref e2)) := by simp [hlen]
    have s8 : (((((σ'.set 5 (some (V.int (i : Nat)))).set 6 (some (V.ref e1))).set 7 (some (V.ref e2))).set 8 (some (V.ref f))).set 9 (some (V.ref q)))[8]? = some (some (.ref f)) := by simp [hlen]
    have s9 : (((((σ'.set 5 (some (V.int (i : Nat)))).set 6 (some (V.ref e1))).set 7 (some (V.ref e2))).set 8 (some (V.ref f))).set 9 (some (V.ref q)))[9]? = some (some (.ref q)) := by simp [hlen]
    have hq2 := eT _ _ hq (fun _ q => nomatch q)
    refine fal_if (fal_or (fal_lm hp l5.tb hn s8 s6 s9 (lm_ext eT lm) (xo_ext eT x1) (dpA_ext eT _ d1) hq2 (dpA_ext eT _ dz)) fun H3 z3 t3 => fal_lm hp t3 hn s8 s7 s9 (lm_ext z3 (lm_ext eT lm)) (xo_ext z3 (xo_ext eT x2)) (dpA_ext z3 _ (dpA_ext eT _ d2)) (z3 _ _ hq2 (fun _ q => nomatch q)) (dpA_ext z3 _ (dpA_ext eT _ dz))) fun H3 z3 t3 => ?_
    exact two_ok hp hn (l5.go z3 t3) s5 s6 s7 (xo_ext z3 (xo_ext eT x1)) (xo_ext z3 (xo_ext eT x2)) fun σ4 H4 l4 => l4
  · have e : i = 15 := by omega
    subst e
    exact .inl ⟨⟨ts, SqL.of l.hr, by rw [l.en.1]; exact Nat.le_refl _⟩, k σ' H' l.len l.s0 l.ex l.tb⟩
end
end NS

set_option Elab.async false
set_option linter.all false
set_option maxRecDepth 100000
set_option maxHeartbeats 4000000
namespace NS
open PySem PySem.Spec PyProof.Rows L2 GX LamX NdefX
def spLaw (K : PySem.W.Frag) : Sp := fun vs H Q _ => ∃ (a : Addr) (ns : List Int), vs = [.ref a] ∧ SqL K H a (ns.map V.int) ∧ ns.length ≤ 63 ∧ TabsN (lTs K) H ∧ ∀ H', Q (.bl true) H'
theorem tabs_but {Ts : List NTab} {H H' : Hp} {p : Addr} (hT : TabsN Ts H) (hs : Src p H) (hb : But p H H') : TabsN Ts H' := fun q hq => by
  obtain ⟨x, y, hr, _⟩ := hs
  obtain ⟨ps, h1, h2, h3⟩ := hT q hq
  refine ⟨ps, (hb _ fun z => by rw [z, hr] at h1; cases h1).trans h1, h2, fun pos cv hc => ?_⟩
  obtain ⟨c, e1, e2⟩ := h3 pos cv hc
  refine ⟨c, e1, (hb _ fun z => ?_).trans e2⟩
  rw [z, hr] at e2
  cases (show HO.lst _ = HO.ext _ from Option.some.inj e2)
theorem ext_but {H0 H H' : Hp} {p : Addr} (e : ExtN H0 H) (np : ∀ b o, H0 b = some o → (∀ ps, o ≠ .tbl ps) → b ≠ p) (hb : But p H H') : ExtN H0 H' := fun b o h n => (hb b (np b o h n)).trans (e b o h n)
theorem src_ext {H H' : Hp} {p : Addr} (e : ExtN H H') (h : Src p H) : Src p H' := by
  obtain ⟨x, y, h1, h2⟩ := h
  exact ⟨x, y, e _ _ h1 (fun _ q => nomatch q), h2⟩
theorem pick4 {ix : Int} (h0 : 0 ≤ ix) (h1 : ix < 4) : ∃ z, z ∈ phrs ∧ atI [V.str "", V.str "drop", V.str "a b", V.str "7"] ix = some (.str z) := by
  have : ix = 0 ∨ ix = 1 ∨ ix = 2 ∨ ix = 3 := by omega
  rcases this with rfl | rfl | rfl | rfl
  · exact ⟨"", by decide, rfl⟩
  · exact ⟨"drop", by decide, rfl⟩
  · exact ⟨"a b", by decide, rfl⟩
  · exact ⟨"7", by decide, rfl⟩
section
variable {P : Program} {w : World} {K : PySem.W.Frag} {mg : Str → Option Value} {base : Heap}
theorem ok_law (T : Txt K mg) (TB : TabB base mg (mC K) (mP K)) : FnOk P w K mg base (L2.CX P w) 4 (fA K "law") (fD K "law") ["_law_script"] (spLaw K) := by
  refine T.F_law.okX sc_law (fun vs H Q E h => ?_) (fun cdv A outer s H vs Q E hr h => ?_)
  · obtain ⟨a, ns, rfl, _⟩ := h
    rfl
  · obtain ⟨a, ns, rfl, hS, hl, hT, k⟩ := h
    refine ⟨_, (pss_cons (ps_for (passes_of rfl) rfl (pi_range1 rfl T.z_range (pa_cons (pe_callB (call_max2 rfl) (by rfl) T.z_max (by decide +kernel) (pa_cons pe_int (pa_cons (pe_callB (call_min2 rfl) (by rfl) T.z_min (by decide +kernel) (pa_cons (pe_callB call_len_seq (by rfl) T.z_len PySem.boot_len (pa_cons (pv 0) pa_nil)) (pa_cons pe_int pa_nil))) pa_nil))) pa_nil)) (pg_name (i := 1) sc_law.nd rfl (by first | exact Or.inl rfl | exact Or.inr rfl)) (pss_cons (ps_set (i := 2) sc_law.nd rfl (by first | exact Or.inl rfl | exact Or.inr rfl) (pe_call (ok_law_source T) (hr.mono (by decide)) (by rfl) T.g_law_source T.F_law_source.kp T.b_law_source .nil passL (pa_cons (pv 0) (pa_cons (pv 1) pa_nil))))
      (pss_cons (ps_par (i := 3) (j := 4) (by rfl) sc_law.nd rfl rfl (by decide) rfl rfl (pa_cons (pe_call (ok_law_draw T) (hr.mono (by decide)) (by rfl) T.g_law_draw T.F_law_draw.kp T.b_law_draw .nil passL (pa_cons (pv 2) (pa_cons pe_int pa_nil))) (pa_cons (pe_ix ix_list (pe_lst (pa_cons pe_str (pa_cons pe_str (pa_cons pe_str (pa_cons pe_str pa_nil))))) (pe_call (ok_law_draw T) (hr.mono (by decide)) (by rfl) T.g_law_draw T.F_law_draw.kp T.b_law_draw .nil passL (pa_cons (pv 2) (pa_cons pe_int pa_nil))) (fun _ _ => rfl)) pa_nil)) (by rfl))
      (pss_one (ps_for (passes_of rfl) rfl (pi_enum (by rfl) T.z_enumerate (pa_cons (pe_call (ok_law_made T TB) (hr.mono (by decide)) (by rfl) T.g_law_made T.F_law_made.kp T.b_law_made .nil passL (pa_cons (pv 3) (pa_cons (pv 4) pa_nil))) pa_nil)) (pg_tup rfl (pgs_cons (pg_name (i := 5) sc_law.nd rfl (by first | exact Or.inl rfl | exact Or.inr rfl)) (pgs_cons (pg_tup rfl (pgs_cons (pg_name (i := 6) sc_law.nd rfl (by first | exact Or.inl rfl | exact Or.inr rfl)) (pgs_cons (pg_name (i := 7) sc_law.nd rfl (by first | exact Or.inl rfl | exact Or.inr rfl)) (pgs_cons (pg_name (i := 8) sc_law.nd rfl (by first | exact Or.inl rfl | exact Or.inr rfl)) (pgs_cons (pg_name (i := 9) sc_law.nd rfl (by first | exact Or.inl rfl | exact Or.inr rfl)) pgs_nil))))) pgs_nil))) (pss_cons (ps_if (PW.pt (pw_or (pt_cmpR (op_neD hr.units) (pe_calll (sp := spLm K) (lm_all T (hr.mono (by decide))) passL (i := 8) rfl (by first | exact Or.inl rfl | exact Or.inr (Or.inl rfl)) (pa_cons (pv 6) pa_nil)) (pv 9) (nomark _)) (pw_or1 (pt_cmpR (op_neD hr.units) (pe_calll (sp := spLm K) (lm_all T (hr.mono (by decide))) passL (i := 8) rfl (by first | exact Or.inl rfl | exact Or.inr (Or.inl rfl)) (pa_cons (pv 7) pa_nil)) (pv 9) (nomark _))))) (pss_one (ps_ret pe_bl)) pss_nil)
      (pss_one (ps_for (passes_of rfl) rfl (pi_list (pe_lst (pa_cons (pv 6) (pa_cons (pv 7) pa_nil)))) (pg_name (i := 10) sc_law.nd rfl (by first | exact Or.inl rfl | exact Or.inr rfl)) (pss_one (ps_if (PW.pt (pw_or (pt_cmpR (op_neD hr.units) (pe_call (ok_law_classes T) (hr.mono (by decide)) (by rfl) T.g_law_classes T.F_law_classes.kp T.b_law_classes .nil passL (pa_cons (pv 10) pa_nil)) (pe_lc (own := [("_law_spot", 11)]) (g := gName 11) rfl sc_law.nd (pi_range1 rfl T.z_range (pa_cons pe_int pa_nil)) (blkOk_by (N := ["_law_script", "_law_k", "_law_source_here", "_law_figure", "_law_phrase", "_law_place", "_law_one", "_law_two", "_law_reads", "_law_expected", "_law_error", "_law_spot"]) (sc := defScope s_law) (by decide +kernel)) (fun _ _ _ _ _ => pg_name (i := 11) sc_law.nd rfl (by first | exact Or.inl rfl | exact Or.inr rfl)) (fun _ _ _ _ _ => pts_nil) (fun _ _ _ _ _ => (pe_cmpR op_eq (pv 11) (pv 5) (nomark _)))) (nomark _)) (pw_or1 (pt_not (pt_val (pe_call (ok_law_bases T) (hr.mono (by decide)) (by rfl) T.g_law_bases T.F_law_bases.kp T.b_law_bases .nil passL (pa_cons (pv 10) (pa_cons (pv 5) pa_nil)))))))) (pss_one (ps_ret pe_bl)) pss_nil))))))))))
      (pss_one (ps_ret pe_bl))), ?_⟩
    have hj : 1 ≤ (if (if (6 : Int) < ((ns.map V.int).length : Int) then (6 : Int) else ((ns.map V.int).length : Int)) > 1 then (if (6 : Int) < ((ns.map V.int).length : Int) then (6 : Int) else ((ns.map V.int).length : Int)) else 1) ∧
        (if (if (6 : Int) < ((ns.map V.int).length : Int) then (6 : Int) else ((ns.map V.int).length : Int)) > 1 then (if (6 : Int) < ((ns.map V.int).length : Int) then (6 : Int) else ((ns.map V.int).length : Int)) else 1) ≤ 6 := by
      generalize ((ns.map V.int).length : Int) = n
      constructor <;> (split <;> split <;> omega)
    refine ⟨_, rfl, a, ns.map V.int, rfl, .inl hS, _, _, rfl, _, _, rfl, ?_⟩
    generalize (if (if (6 : Int) < ((ns.map V.int).length : Int) then (6 : Int) else ((ns.map V.int).length : Int)) > 1 then (if (6 : Int) < ((ns.map V.int).length : Int) then (6 : Int) else ((ns.map V.int).length : Int)) else 1) = j at hj ⊢
    refine ⟨j, rfl, by omega, by omega, for_range (fun i σ H' => σ.length = 12 ∧ σ[0]? = some (some (.ref a)) ∧ ExtN H H' ∧ TabsN (lTs K) H') ⟨rfl, rfl, ExtN.refl H, hT⟩ (fun i σ H' hi ⟨h12, h0, hx, hT'⟩ => ?_) fun σ H' _ => k H'⟩
    have hS' : SqL K H' a (ns.map V.int) := hS.elim (fun z => .inl (rd_ext hx (fun _ q => nomatch q) z)) .inr
    refine ⟨_, (List.getElem?_set_ne (by decide)).trans h0, _, List.getElem?_set_self (by rw [h12]; decide), a, ns, 0 + (i : Int), rfl, hS', hl, by omega, by omega, fun H1 p kp hpn src => ?_⟩
    have np : ∀ b o, H b = some o → (∀ ps, o ≠ .tbl ps) → b ≠ p := fun b o e n z => by
      have q := hx b o e n
      rw [z, hpn] at q
      cases q
    have x1 : ExtN H H1 := hx.trans (keeps_ext kp)
    have t1 := hT'.ext kp
    refine ⟨_, List.getElem?_set_self (by rw [List.length_set, h12]; decide), p, 100, rfl, src, by decide, by decide, fun fig H2 f0 f1 src2 but2 => ?_⟩
    have x2 := ext_but x1 np but2
    have t2 := tabs_but t1 src but2
    refine ⟨len_line (by decide : 4 ≤ 100), fun q hq => ?_⟩
    have x3 := x2.trans (ext_upd (o := .lst [V.str "", V.str "drop", V.str "a b", V.str "7"]) hq)
    have t3 := tabs_upd (o := .lst [V.str "", V.str "drop", V.str "a b", V.str "7"]) t2 hq
    have src3 := src_ext (ext_upd (o := .lst [V.str "", V.str "drop", V.str "a b", V.str "7"]) hq) src2
    refine ⟨_, List.getElem?_set_self (by rw [List.length_set, h12]; decide), p, 4, rfl, src3, by decide, by decide, fun ix H4 i0 i1 src4 but4 => ?_⟩
    have x4 := ext_but x3 np but4
    have t4 := tabs_but t3 src3 but4
    obtain ⟨z, hz, hat⟩ := pick4 i0 i1
    have hqp : q ≠ p := fun e => by
      obtain ⟨x, y, h1, _⟩ := src2
      rw [e, h1] at hq
      cases hq
    refine ⟨q, _, ix, _, rfl, rfl, SqL.of ((but4 q hqp).trans upd_same), hat, _, _, rfl, ?_⟩
    exact walk_ok (fig := fig) (phr := z) (a := a) rfl rfl hz (by simp [h12]) (by rw [List.getElem?_set_ne (by decide), List.getElem?_set_ne (by decide), List.getElem?_set_ne (by decide), List.getElem?_set_ne (by decide)]; exact h0) (by rw [List.getElem?_set_ne (by decide)]; exact List.getElem?_set_self (by rw [List.length_set, List.length_set, h12]; decide)) (List.getElem?_set_self (by rw [List.length_set, List.length_set, List.length_set, h12]; decide)) x4 t4 fun σ' H' l0 l1 l2 l3 => ⟨l0, l1, l2, l3⟩
end
end NS

set_option Elab.async false
set_option linter.all false
set_option maxRecDepth 100000
set_option maxHeartbeats 0
namespace NS
open PySem PySem.Spec PyProof.Rows L2 GX LamX NdefX
/-! ### the head by facts -/
def fn : List He.DefD := [⟨("InvalidWidth", some "__init__"), "__init__", "InvalidWidth.__init__", defArgs (inClass (topS 2) 0), defBody (inClass (topS 2) 0), defScope (inClass (topS 2) 0), [], []⟩,
  ⟨("InvalidStep", some "__init__"), "__init__", "InvalidStep.__init__", defArgs (inClass (topS 3) 0), defBody (inClass (topS 3) 0), defScope (inClass (topS 3) 0), [], []⟩,
  ⟨("InvalidValues", some "__init__"), "__init__", "InvalidValues.__init__", defArgs (inClass (topS 4) 0), defBody (inClass (topS 4) 0), defScope (inClass (topS 4) 0), [], []⟩,
  ⟨("InvalidIndex", some "__init__"), "__init__", "InvalidIndex.__init__", defArgs (inClass (topS 5) 0), defBody (inClass (topS 5) 0), defScope (inClass (topS 5) 0), [], []⟩,
  ⟨("InvalidCode", some "__init__"), "__init__", "InvalidCode.__init__", defArgs (inClass (topS 6) 0), defBody (inClass (topS 6) 0), defScope (inClass (topS 6) 0), [], []⟩,
  ⟨("InvalidMove", some "__init__"), "__init__", "InvalidMove.__init__", defArgs (inClass (topS 7) 0), defBody (inClass (topS 7) 0), defScope (inClass (topS 7) 0), [], []⟩,
  ⟨("InvalidNumber", some "__init__"), "__init__", "InvalidNumber.__init__", defArgs (inClass (topS 8) 0), defBody (inClass (topS 8) 0), defScope (inClass (topS 8) 0), [], []⟩,
  ⟨("WidthMismatch", some "__init__"), "__init__", "WidthMismatch.__init__", defArgs (inClass (topS 9) 0), defBody (inClass (topS 9) 0), defScope (inClass (topS 9) 0), [], []⟩,
  ⟨("NotEquivalent", some "__init__"), "__init__", "NotEquivalent.__init__", defArgs (inClass (topS 10) 0), defBody (inClass (topS 10) 0), defScope (inClass (topS 10) 0), [], []⟩,
  ⟨("LimitExceeded", some "__init__"), "__init__", "LimitExceeded.__init__", defArgs (inClass (topS 11) 0), defBody (inClass (topS 11) 0), defScope (inClass (topS 11) 0), [], []⟩,
  ⟨("ParseError", some "__init__"), "__init__", "ParseError.__init__", defArgs (inClass (topS 12) 0), defBody (inClass (topS 12) 0), defScope (inClass (topS 12) 0), [], []⟩,
  ⟨("InvalidCommand", some "__init__"), "__init__", "InvalidCommand.__init__", defArgs (inClass (topS 13) 0), defBody (inClass (topS 13) 0), defScope (inClass (topS 13) 0), [], []⟩,
  ⟨("InvalidChange", some "__init__"), "__init__", "InvalidChange.__init__", defArgs (inClass (topS 14) 0), defBody (inClass (topS 14) 0), defScope (inClass (topS 14) 0), [], []⟩,
  ⟨("NothingToUndo", some "__init__"), "__init__", "NothingToUndo.__init__", defArgs (inClass (topS 15) 0), defBody (inClass (topS 15) 0), defScope (inClass (topS 15) 0), [], []⟩,
  ⟨("UnknownName", some "__init__"), "__init__", "UnknownName.__init__", defArgs (inClass (topS 16) 0), defBody (inClass (topS 16) 0), defScope (inClass (topS 16) 0), [], []⟩,
  ⟨("_law_source", none), "_law_source", "_law_source", defArgs (topS 18), defBody (topS 18), defScope (topS 18), [], []⟩,
  ⟨("_law_draw", none), "_law_draw", "_law_draw", defArgs (topS 19), defBody (topS 19), defScope (topS 19), [], []⟩,
  ⟨("_law_made", none), "_law_made", "_law_made", defArgs (topS 20), defBody (topS 20), defScope (topS 20), [], []⟩,
  ⟨("_law_classes", none), "_law_classes", "_law_classes", defArgs (topS 21), defBody (topS 21), defScope (topS 21), [], []⟩,
  ⟨("_law_bases", none), "_law_bases", "_law_bases", defArgs (topS 22), defBody (topS 22), defScope (topS 22), [], []⟩,
  ⟨("law", none), "law", "law", defArgs (topS 23), defBody (topS 23), defScope (topS 23), [], []⟩]
def glo : List Str := ["NetworkError", "InvalidWidth", "InvalidStep", "InvalidValues", "InvalidIndex", "InvalidCode", "InvalidMove", "InvalidNumber", "WidthMismatch", "NotEquivalent", "LimitExceeded", "ParseError", "InvalidCommand", "InvalidChange", "NothingToUndo", "UnknownName", "_law_source", "_law_draw", "_law_made", "_law_classes", "_law_bases", "law"]
def blt : List Str := ["LookupError", "ValueError", "abs", "enumerate", "int", "isinstance", "len", "max", "min", "range", "sum"]

def fa : List He.Fa := glo.map .glo ++ blt.map .free
def lookInit (K : PySem.W.Frag) : Bool := match PySem.W.findCls K (.type "LookupError") (.type "type") "__init__" with
  | some (.val (.builtin x)) => x == "LookupError.__init__"
  | _ => false
def ex (K : PySem.W.Frag) : Bool := xkB K && (xnB K (He.ga K "NetworkError") "ValueError.__init__" && (exV.all (fun x => xcB K "ValueError.__new__" tlV (He.ga K x) (He.ma K (He.ga K x) "__init__")) && (xcB K "LookupError.__new__" tlL (He.ga K "UnknownName") (He.ma K (He.ga K "UnknownName") "__init__") &&
  (isB K exs (exs.map fun y => (y, fun x => x == y)) && (isB K exs [("NetworkError", fun x => x != "UnknownName")] && (isT K exs "ValueError" (fun x => x != "UnknownName") && (isT K exs "LookupError" (fun x => x == "UnknownName") &&
  ((exs.all fun x => flds.all fun f => okv (PySem.W.findIn K (.ref (He.ga K x)) f) (some none)) && lookInit K))))))))
def tf : List He.Defn := [("_law_made", none)]
abbrev R : PySem.W.OpenRow := PySem.W.OpenLaw.row PySem.Challenge.rw_nearswap_k08_exception_classes
abbrev hk : PySem.W.Hook := hookY 5 fa fn tf ex
def ob (s : PySem.W.SharedT) : He.AlX := obsY 5 fa fn tf ex (HandSHeadRun.getT s)
theorem ob_eq (s : PySem.W.SharedT) : ob s = hk.obs s.abs := obsY_eq (HandSHeadRun.getT_eq s)
set_option maxRecDepth 1000000 in
theorem run (w : World) : HandSHeadRun.RunEq R (PySem.W.view R.prog [23]) hk ob 20000 glo.dropLast w := by
  intro os
  kernel_rfl
theorem lookInit_ok {K : PySem.W.Frag} (h : lookInit K = true) : PySem.W.findCls K (.type "LookupError") (.type "type") "__init__" = some (.val (.builtin "LookupError.__init__")) := by
  unfold lookInit at h
  split at h
  · rename_i x e
    rw [e, beq_iff_eq.mp h]
  · cases h
/-- the words of the walk -/
theorem txt {K : PySem.W.Frag} {mg : Str → Option Value} {h : Heap} {w : World} (X : K.In h) (G : h.Ns mainGlobals mg) (c : He.SaysX fa fn [] tf ex w h K) : Txt K mg := by
  obtain ⟨h1, q⟩ := both c.more
  obtain ⟨h2, q⟩ := both q
  obtain ⟨h3, q⟩ := both q
  obtain ⟨h4, q⟩ := both q
  obtain ⟨h5, q⟩ := both q
  obtain ⟨h6, q⟩ := both q
  obtain ⟨h7, q⟩ := both q
  obtain ⟨h8, q⟩ := both q
  obtain ⟨h9, h10⟩ := both q
  exact {
  F_InvalidWidth___init := txt_fun c.t.d 0 rfl
  F_InvalidStep___init := txt_fun c.t.d 1 rfl
  F_InvalidValues___init := txt_fun c.t.d 2 rfl
  F_InvalidIndex___init := txt_fun c.t.d 3 rfl
  F_InvalidCode___init := txt_fun c.t.d 4 rfl
  F_InvalidMove___init := txt_fun c.t.d 5 rfl
  F_InvalidNumber___init := txt_fun c.t.d 6 rfl
  F_WidthMismatch___init := txt_fun c.t.d 7 rfl
  F_NotEquivalent___init := txt_fun c.t.d 8 rfl
  F_LimitExceeded___init := txt_fun c.t.d 9 rfl
  F_ParseError___init := txt_fun c.t.d 10 rfl
  F_InvalidCommand___init := txt_fun c.t.d 11 rfl
  F_InvalidChange___init := txt_fun c.t.d 12 rfl
  F_NothingToUndo___init := txt_fun c.t.d 13 rfl
  F_UnknownName___init := txt_fun c.t.d 14 rfl
  F_law_source := txt_fun c.t.d 15 rfl
  g_law_source := He.glo_ok X G (c.t.d.fact 16 rfl)
  F_law_draw := txt_fun c.t.d 16 rfl
  g_law_draw := He.glo_ok X G (c.t.d.fact 17 rfl)
  F_law_made := txt_fun c.t.d 17 rfl
  g_law_made := He.glo_ok X G (c.t.d.fact 18 rfl)
  F_law_classes := txt_fun c.t.d 18 rfl
  g_law_classes := He.glo_ok X G (c.t.d.fact 19 rfl)
  F_law_bases := txt_fun c.t.d 19 rfl
  g_law_bases := He.glo_ok X G (c.t.d.fact 20 rfl)
  F_law := txt_fun c.t.d 20 rfl
  g_law := He.glo_ok X G (c.t.d.fact 21 rfl)
  g_NetworkError := He.glo_ok X G (c.t.d.fact 0 rfl)
  g_InvalidWidth := He.glo_ok X G (c.t.d.fact 1 rfl)
  g_InvalidStep := He.glo_ok X G (c.t.d.fact 2 rfl)
  g_InvalidValues := He.glo_ok X G (c.t.d.fact 3 rfl)
  g_InvalidIndex := He.glo_ok X G (c.t.d.fact 4 rfl)
  g_InvalidCode := He.glo_ok X G (c.t.d.fact 5 rfl)
  g_InvalidMove := He.glo_ok X G (c.t.d.fact 6 rfl)
  g_InvalidNumber := He.glo_ok X G (c.t.d.fact 7 rfl)
  g_WidthMismatch := He.glo_ok X G (c.t.d.fact 8 rfl)
  g_NotEquivalent := He.glo_ok X G (c.t.d.fact 9 rfl)
  g_LimitExceeded := He.glo_ok X G (c.t.d.fact 10 rfl)
  g_ParseError := He.glo_ok X G (c.t.d.fact 11 rfl)
  g_InvalidCommand := He.glo_ok X G (c.t.d.fact 12 rfl)
  g_InvalidChange := He.glo_ok X G (c.t.d.fact 13 rfl)
  g_NothingToUndo := He.glo_ok X G (c.t.d.fact 14 rfl)
  g_UnknownName := He.glo_ok X G (c.t.d.fact 15 rfl)
  z_LookupError := He.free_ok X G (c.t.d.fact 22 rfl)
  z_ValueError := He.free_ok X G (c.t.d.fact 23 rfl)
  z_abs := He.free_ok X G (c.t.d.fact 24 rfl)
  z_enumerate := He.free_ok X G (c.t.d.fact 25 rfl)
  z_int := He.free_ok X G (c.t.d.fact 26 rfl)
  z_isinstance := He.free_ok X G (c.t.d.fact 27 rfl)
  z_len := He.free_ok X G (c.t.d.fact 28 rfl)
  z_max := He.free_ok X G (c.t.d.fact 29 rfl)
  z_min := He.free_ok X G (c.t.d.fact 30 rfl)
  z_range := He.free_ok X G (c.t.d.fact 31 rfl)
  z_sum := He.free_ok X G (c.t.d.fact 32 rfl)
  xk := xkB_ok h1
  n_NetworkError := xnB_ok h2
  xV := fun x hx => xcB_ok (List.all_eq_true.mp h3 x hx)
  xL := xcB_ok h4
  fi_LookupError := lookInit_ok h10
  nf := fun x hx f hf => of_decide_eq_true (List.all_eq_true.mp (List.all_eq_true.mp h9 x hx) f hf)
  is_ := fun x hx y hy => isB_ok h5 hx (y := (y, fun x => x == y)) (List.mem_map.mpr ⟨y, hy, rfl⟩)
  isN := fun x hx => isB_ok h6 hx (y := ("NetworkError", fun x => x != "UnknownName")) (List.mem_singleton.mpr rfl)
  isV := fun x hx => isT_ok h7 hx
  isL := fun x hx => isT_ok h8 hx }
theorem facts {P : Program} {w : World} {K : PySem.W.Frag} {h : Heap} {mg : Str → Option Value} {f : Addr} (X : K.In h) (G : h.Ns mainGlobals mg) (hf : mg ("law" : Str) = some (.ref f)) (c : He.SaysX fa fn [] tf ex w h K) :
    (∀ (s : Shared) (v : Value), BindsTo s (fD K "law") ⟨[v], []⟩ [("_law_script", v)]) ∧ ∀ base : Heap, K.In base → base.Ns mainGlobals mg → (∀ p ∈ [(mC K, mP K)], TabB base mg p.1 p.2) → FnOk P w K mg base (L2.CX P w) 4 f (fD K "law") ["_law_script"] (spLaw K) := by
  have T := txt X G c
  have e := hf.symm.trans T.g_law
  cases e
  obtain ⟨oc, od, kV, doc, pm, an, cdv, ct, osl, e1, lk, hcd⟩ := T.F_law.ex
  refine ⟨fun s v => ?_, fun base hb hG tb => ok_law T (tb _ (List.mem_singleton.mpr rfl))⟩
  rw [e1]
  exact .of_eq rfl
end NS
open PySem PySem.W PySem.Calls PyProof.Rows
theorem PySem.Challenge.cw_nearswap_k08_exception_classes_holds : PySem.Challenge.rw_nearswap_k08_exception_classes.Holds := by
  w_on; o_law
  refine HandSHeadRun.head_any (r := NS.R) (q := view NS.R.prog [23]) (H := NS.hk) (ob := NS.ob) (M := 20000) (loose := NS.glo.dropLast) (d := HandSHeadRun.topDef NS.R.prog 23) (kwd := []) NS.ob_eq
    (by kernel_rfl) (fun s => by kernel_rfl) NS.run (by kernel_rfl) (by kernel_rfl) (by kernel_rfl) (by rfl) (by first | assumption | decide +kernel) (by decide +kernel) ⟨rfl, rfl, rfl, rfl, rfl, by decide +kernel⟩ ?hw ?hc
  case hw => w_witness2
  case hc =>
    refine LamX.walk_ofTsE (l := PySem.Challenge.rw_nearswap_k08_exception_classes) (n := 63) (k := 4) (x := "_law_script") (CX := fun w => L2.CX PySem.Challenge.rw_nearswap_k08_exception_classes.prog w) rfl (by decide) (by kernel_rfl) ⟨rfl, by decide, by decide⟩ ?F ?C
    case C =>
      rintro w H s e s' ⟨_, _, _, _, _, _, _, _, _, _, _, _, z⟩
      exact z
    case F =>
      intro w mg f h Y G hm
      obtain ⟨K, KX, c⟩ := Y
      have hmg : mg ("law" : PySem.Str) = some (.ref f) := by
        have e : (HandSHeadRun.topDef NS.R.prog 23).name = ("law" : PySem.Str) := by kernel_rfl
        rw [← e]
        exact hm
      obtain ⟨hb, hF⟩ := NS.facts (P := PySem.Challenge.rw_nearswap_k08_exception_classes.prog) (w := w) KX G hmg c
      refine ⟨K, KX, NS.fD K "law", [(NS.mC K, NS.mP K)], NS.spLaw K, ?_, ?_, ?_, hb, ?_, hF⟩
      · intro p hp
        rw [List.mem_singleton.mp hp]
        exact c.empty _ (List.mem_singleton.mpr rfl)
      · intro p hp
        rw [List.mem_singleton.mp hp]
        exact c.out _ (List.mem_singleton.mpr rfl)
      · intro p hp
        rw [List.mem_singleton.mp hp]
        exact PySem.W.codeHd_of_K KX (c.hd _ (List.mem_singleton.mpr rfl))
      · intro H a ns hl _ hT hS
        refine ⟨a, ns, rfl, hS, hl, fun p hp => ?_, fun _ => rfl⟩
        rw [List.mem_singleton.mp hp]
        exact NdefX.TabN.nil (hT _ (List.mem_singleton.mpr rfl))
#print axioms PySem.Challenge.cw_nearswap_k08_exception_classes_holds

