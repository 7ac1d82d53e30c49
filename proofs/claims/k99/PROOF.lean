import PyProof.Rows.All
import Wide.All
import OpenK.AllK
import Wide.FinOn
import PyProof.EqAt
import PyProof.EqKinds
import PyProof.TupleCall
import HandS.ForMost
import HandS.Walk
import HandS.Conv
import KE.KExcInit
import HandS.Exc
import HandS.ExcInit
import HandS.ExcIs
import HandS.ExcField
import HandS.MakeKw
import HandS.MakeKwOnly
import KE.KExcStr
import HandS.Defaults
import HandS.Flow
import HandS.IsInst
import HandS.TupMul
import HandS.RaiseMore
import PyProof.StrOps2
import PySem.Challenge.RW_siftedhome_k99_errors_by_hand
import HandS.HeadHook2
import HandS.EndBits
set_option Elab.async false
set_option linter.all false
set_option maxRecDepth 100000
set_option maxHeartbeats 0
/-! Own exceptions as values, made with or without keywords, over any built-in base. -/
namespace DX
open PySem PySem.HandSPX PySem.Builtin PySem.Builtin.ObjectAttr
section
variable {Mo : Model} {Ar : Around} {Er : Value → Shared → Prop} {hp : Heap} {gs : Array GenState} {dr : Drawn} {tk : Nat} {ost : OsState}
variable {nm q : Str} {C N : Addr} {bs bm bmB : List Value} {hdct : Bool} {sn : List Str} {sub : List Value} {ab : Bool} {col : Option Bool} {dd : Option Addr} {k0 k1 k2 k3 k5 : Option Value} {B nI iI : String} {us : List Value} {kw : List (Str × Value)}
theorem new_checked (F : ExcBaseFacts B nI iI bmB) (hT : ∀ Y : String, bm.contains (.type Y) = bmB.contains (.type Y)) {Q : Unit → Shared → Prop} (hC : hp.get? C = some (excClassObj nm q C N bs bm hdct sn sub ab col dd k0 k1 k2 k3 k5 nI)) (hQ : Q () ⟨hp, gs, dr, tk, ost⟩) :
    wpAny Mo Ar (checkBuiltinCall nI ⟨.ref C :: us, kw⟩) Q Er ⟨hp, gs, dr, tk, ost⟩ := by
  have c1 : (Value.ref C :: bm).contains (.type B) = true := (List.contains_cons ..).trans (by rw [hT, F.hasB, Bool.or_true])
  have c2 := F.noStar
  simp only [checkBuiltinCall, F.newKind, F.newSplit, F.newRow]
  repeat (first | refine wpAny_loadPart_at hC ?_ | (refine wpAny_isSubtype_exc hC ?_; rw [c1]) | refine wpAny_staticBase_exc hC ?_ | refine wpAny_madeBy_exc hC ?_ | simp only [bne_self_eq_false, Bool.false_eq_true, if_false] | wp_step)
  exact hQ
/-- B.__init__(e, ..): no check stands in the way -/
theorem init_checked (F : ExcBaseFacts B nI iI bmB) (hT : ∀ Y : String, bm.contains (.type Y) = bmB.contains (.type Y)) {e : Addr} {ob : Obj} {Q : Unit → Shared → Prop} (hC : hp.get? C = some (excClassObj nm q C N bs bm hdct sn sub ab col dd k0 k1 k2 k3 k5 nI))
    (he : hp.get? e = some ob) (ec : ob.cls = .ref C) (hQ : Q () ⟨hp, gs, dr, tk, ost⟩) : wpAny Mo Ar (checkBuiltinCall iI ⟨.ref e :: us, []⟩) Q Er ⟨hp, gs, dr, tk, ost⟩ := check_init_own F hT hC he ec hQ
end
section
variable {pg : Program} {w : World} {Ar : Around} {Er : Value → Shared → Prop} {R : Result → Shared → Prop} {hp : Heap} {gs : Array GenState} {dr : Drawn} {tk : Nat} {ost : OsState}
variable {nm q : Str} {C N : Addr} {bs bm bmB : List Value} {hdct : Bool} {sn : List Str} {sub : List Value} {ab : Bool} {col : Option Bool} {dd : Option Addr} {k0 k1 k2 k3 k5 : Option Value} {B nI iI : String} {us : List Value} {kw : List (Str × Value)}
theorem new_run (F : ExcBaseFacts B nI iI bmB) (hT : ∀ Y : String, bm.contains (.type Y) = bmB.contains (.type Y)) (hC : hp.get? C = some (excClassObj nm q C N bs bm hdct sn sub ab col dd k0 k1 k2 k3 k5 nI)) (hl : us.length ≤ sizeLine)
    (hR : R (.ok (.ret (.ref (hp.objs.size + 1)))) ⟨(hp.push (W.kdv_tup us)).push (excO C hp.objs.size), gs, dr, tk, ost⟩) : codeAny (model pg w) Ar (.builtin nI ⟨.ref C :: us, kw⟩) R ⟨hp, gs, dr, tk, ost⟩ := by
  have x1 := F.ends
  have c1 : (Value.ref C :: bm).contains (.type B) = true := (List.contains_cons ..).trans (by rw [hT, F.hasB, Bool.or_true])
  have c2 : (Value.ref C :: bm).contains (.type "AttributeError") = false := (List.contains_cons ..).trans (by rw [hT, F.noAttr]; rfl)
  have c3 : (Value.ref C :: bm).contains (.type "NameError") = false := (List.contains_cons ..).trans (by rw [hT, F.noName]; rfl)
  refine codeAny_builtinAt F.entry ?_
  unfold Builtin.«BaseException.__new__»
  refine wpAt_bind ?_
  show wpAt _ _ _ (stack >>= _) _ _ _
  refine wpAt_bind (wpAt_stack fun p0 b0 => wpAt_of_wpAny ?_)
  wp_walk
  refine wpAt_of_wpAny ?_
  rw [F.owner]
  repeat (first | with_reducible refine wpAny_madeHere_exc F.canon hC ?_ | with_reducible refine wpAny_loadPart_at hC ?_ | (with_reducible refine wpAny_isSubtype_exc hC ?_; first | rw [c1] | rw [c2] | rw [c3]) | wp_step)
  show R _ _
  rw [Heap.size_push]
  exact hR
/-- C(..) with keywords: the object, its args, then the own __init__ -/
theorem type_call_kw (F : ExcBaseFacts B nI iI bmB) (hT : ∀ Y : String, bm.contains (.type Y) = bmB.contains (.type Y)) {fI : Addr} {Q : Fin → Shared → Prop} (hC : hp.get? C = some (excClassObj nm q C N bs bm hdct sn sub ab col dd k0 k1 k2 k3 k5 nI)) (hl : us.length ≤ sizeLine)
    (hi : W.Looks (model pg w) hp (typeLookup (.ref C) "__init__") (some (.ref fI))) (hb : ∀ self, W.Looks (model pg w) hp (bindSpecial (.ref fI) self) (.ref fI, [self]))
    (run : codeAny (model pg w) Ar (.call (.ref fI) ⟨.ref (hp.objs.size + 1) :: us, kw⟩) (fun r s' => match r with | .ok (.ret v) => v = .none ∧ Q (.done (.ret (.ref (hp.objs.size + 1)))) s' | .ok _ => False | .error e => Er e s')
      ⟨(hp.push (W.kdv_tup us)).push (excO C hp.objs.size), gs, dr, tk, ost⟩) : wpAny (model pg w) Ar (Builtin.«type.__call__» ⟨.ref C :: us, kw⟩) Q Er ⟨hp, gs, dr, tk, ost⟩ := by
  repeat (first | with_reducible refine wpAny_loadPart_at hC ?_ | with_reducible refine wpAny_madeBy_exc hC ?_ | wp_step)
  refine codeAny_call_builtin_code (Code.quiet_builtin _ F.quiet) (new_checked F hT hC (new_run F hT hC hl ?_))
  show wpAny _ _ _ _ _ _
  have kp : ∀ b o, hp.get? b = some o → ((hp.push (W.kdv_tup us)).push (excO C hp.objs.size)).get? b = some o := fun b o z => Heap.get?_push_of_some _ (Heap.get?_push_of_some _ z)
  have qC := kp _ _ hC
  have qe : ((hp.push (W.kdv_tup us)).push (excO C hp.objs.size)).get? (hp.objs.size + 1) = some (excO C hp.objs.size) := by heap_get
  have cc : (Value.ref C :: bm).contains (.ref C) = true := by simp
  have j1 := hi.keeps kp
  have j2 := (hb (.ref (hp.objs.size + 1))).keeps kp
  unfold isInstance
  repeat (first | with_reducible refine wpAny_loadPart_at qe ?_ | (with_reducible refine wpAny_isSubtype_exc qC ?_; rw [cc]) | wp_step)
  show wpAny _ _ (typeLookup (.ref C) _) _ _ _
  refine j1.at (wpAny_holding (wpAny_bind (j2.at (wpAny_bind (wpAny_call (codeAny_mono run fun r s' z => ?_))))))
  rcases r with e | (v | _ | _ | _) <;> first | exact z | exact z.elim | skip
  obtain ⟨rfl, z⟩ := z
  first
    | exact wpAny_pure (wpAny_pure z)
    | (wp_walk; exact z)
theorem call_kw (F : ExcBaseFacts B nI iI bmB) (hT : ∀ Y : String, bm.contains (.type Y) = bmB.contains (.type Y)) {fI : Addr} (hC : hp.get? C = some (excClassObj nm q C N bs bm hdct sn sub ab col dd k0 k1 k2 k3 k5 nI)) (hl : us.length ≤ sizeLine)
    (hi : W.Looks (model pg w) hp (typeLookup (.ref C) "__init__") (some (.ref fI))) (hb : ∀ self, W.Looks (model pg w) hp (bindSpecial (.ref fI) self) (.ref fI, [self]))
    (run : codeAny (model pg w) (Ar.under (.builtin "type.__call__" ⟨.ref C :: us, kw⟩)) (.call (.ref fI) ⟨.ref (hp.objs.size + 1) :: us, kw⟩) (W.InitBack (hp.objs.size + 1) R) ⟨(hp.push (W.kdv_tup us)).push (excO C hp.objs.size), gs, dr, tk, ost⟩) :
    codeAny (model pg w) Ar (.call (.ref C) ⟨us, kw⟩) R ⟨hp, gs, dr, tk, ost⟩ := by
  have f1 := tc_lookup
  have f2 := tc_bind (.ref C)
  have f3 : (⟨hp, gs, dr, tk, ost⟩ : Shared).TypeIs (.ref C) "type" := ⟨_, hC, rfl⟩
  refine codeAny_of_tree ?_
  show wpAny _ _ (callAny (.ref C) _) _ _ _
  repeat (any_goals (first | assumption | with_reducible refine wpAny_loadPart_at hC ?_ | wp_step))
  refine ⟨rfl, ?_⟩
  refine codeAny_call_builtin_at (Code.quiet_builtin _ (by decide +kernel)) entry_typeCall (wpAny_check_type_call_sub hC (type_call_kw F hT hC hl hi hb (codeAny_mono run fun r s' z => ?_)))
  rcases r with e | (v | _ | _ | _) <;> exact z
/-- B.__init__(e, ..): the args are laid anew, and told -/
theorem init_told (F : ExcBaseFacts B nI iI bmB) (hT : ∀ Y : String, bm.contains (.type Y) = bmB.contains (.type Y)) {e t0 : Addr} (hC : hp.get? C = some (excClassObj nm q C N bs bm hdct sn sub ab col dd k0 k1 k2 k3 k5 nI)) (he : hp.get? e = some (excO C t0)) (hl : us.length ≤ sizeLine)
    (done : R (.ok (.ret .none)) ⟨(hp.push (W.kdv_tup us)).update e (Obj.mapFields fun x => x.setIfInBounds 0 (.ref hp.objs.size)), gs, dr, tk, ost⟩) : codeAny (model pg w) Ar (.call (.builtin iI) ⟨.ref e :: us, []⟩) R ⟨hp, gs, dr, tk, ost⟩ := by
  refine codeAny_call_builtin F.init.plain F.initEntry (check_init_own F hT hC he rfl ?_)
  wp_walk
  exact done
end
end DX

namespace DX
open PySem PySem.Spec PyProof.Rows L2
/-- at e an exception of the class at C, its args at t, its dict (none as yet | at d) -/
def exm (e C t : Addr) (d : Option Addr) : HO := .ext fun h => h.get? e = some ({ cls := .ref C, dict := d, data := .fields #[.ref t, .none, .none, .none, .bool false, .none] } : Obj)
structure XcC (K : PySem.W.Frag) (C : Addr) (B nI iI : String) (bmB : List Value) : Prop where
  eb : ExcBaseFacts B nI iI bmB
  sb : StoreFacts B bmB "object.__setattr__" "object"
  ei : PySem.W.excInitIn K C bmB nI = true
  eo : PySem.W.excOver K C bmB = true
  sa : PySem.W.findIn K (.ref C) "__setattr__" = some (some (.builtin "object.__setattr__"))
  hd : PySem.W.hasDictIn K C = true
  kC : PySem.W.keepIn K (.ref C) = true
theorem exm_tup {e C t : Addr} {d : Option Addr} (xs : List V) : exm e C t d ≠ .tup xs := fun z => by
  have z' : HO.ext _ = HO.tup xs := z
  cases z'
theorem exm_ok {P : Program} {w : World} {H : Hp} {h : Heap} {e C t : Addr} {d : Option Addr} (he : h.get? e = some ({ cls := .ref C, dict := d, data := .fields #[.ref t, .none, .none, .none, .bool false, .none] } : Obj)) : ObjOk P w H h e (exm e C t d) :=
  ⟨he, ⟨_, he⟩, fun _ _ z k => k _ z⟩
theorem exm_at {P : Program} {w : World} {H : Hp} {h : Heap} {e C t : Addr} {d : Option Addr} (ok : HOk P w H h) (q : H e = some (exm e C t d)) : h.get? e = some ({ cls := .ref C, dict := d, data := .fields #[.ref t, .none, .none, .none, .bool false, .none] } : Obj) := by
  have x : ObjOk P w H h e (.ext fun h => h.get? e = some ({ cls := .ref C, dict := d, data := .fields #[.ref t, .none, .none, .none, .bool false, .none] } : Obj)) := ok e _ q
  exact x.1
theorem tup_ok {P : Program} {w : World} {H : Hp} {h : Heap} {t : Addr} {vs : List V} {us : List Value} (ht : h.get? t = some (PySem.W.kdv_tup us)) (r : Vals vs us) (hl : us.length ≤ sizeLine) : ObjOk P w H h t (.tup vs) :=
  ⟨by rw [r.length]; exact hl, us, r, _, ht, rfl, 0, rfl⟩
theorem upd_upd {H : Hp} {a : Addr} {o u : HO} : upd (upd H a o) a u = upd H a u := by
  funext b
  by_cases h : b = a
  · rw [h, upd_same, upd_same]
  · rw [upd_ne h, upd_ne h, upd_ne h]
theorem upd_comm {H : Hp} {a b : Addr} {o u : HO} (n : a ≠ b) : upd (upd H a o) b u = upd (upd H b u) a o := by
  funext x
  by_cases h : x = a
  · subst h
    rw [upd_ne n, upd_same, upd_same]
  · by_cases g : x = b
    · subst g
      rw [upd_same, upd_ne h, upd_same]
    · rw [upd_ne g, upd_ne h, upd_ne h, upd_ne g]
section
variable {X : Cx} {pins : List (Addr × Obj)} {σ : L2.St} {H : Hp} {s : Shared} {a C t dx : Addr} {f : Str} {y : V} {u : Value} {fs : List (Str × V)} {B nI iI : String} {bmB us : List Value} {vs : List V}
/-- B.__init__(a, us ..) -/
theorem init_st {E : Value → Shared → Prop} {Q : Value → Shared → Prop} (T : XcC X.K C B nI iI bmB) (I : Inv X pins σ H s) (e : H a = some (exm a C t none)) (r : Vals vs us) (hl : us.length ≤ sizeLine)
    (h : ∀ t1 s', H t1 = none → Inv X pins σ (upd (upd H t1 (.tup vs)) a (exm a C t1 none)) s' → Q .none s') : wpAny (model X.prog X.w) X.A (call (.builtin iI) (.ref a :: us)) Q E s := by
  obtain ⟨nm, N, qn, bs, bm, hdct, sn, sub, ab, col, dd, k0, k1, k2, k3, k5, hC, hT⟩ := PySem.W.excInit_of I.kIn T.ei
  have ho := exm_at I.hok e
  obtain ⟨hp, g, d, tk, os⟩ := s
  have ha : a < hp.objs.size := Heap.lt_size ho
  have fr : H hp.objs.size = none := I.hok.fresh (Nat.le_refl _)
  have h1 : (hp.push (PySem.W.kdv_tup us)).get? hp.objs.size = some (PySem.W.kdv_tup us) := Heap.get?_push_at rfl rfl
  have I1 := I.laid (t' := tk) (a := hp.objs.size) (o := .tup vs) (h' := hp.push (PySem.W.kdv_tup us)) (fun b o z => Heap.get?_push_of_some _ z) (Nat.le_refl _) (tup_ok h1 r hl)
  have na : a ≠ hp.objs.size := Nat.ne_of_lt ha
  have h2 : ((hp.push (PySem.W.kdv_tup us)).update a (Obj.mapFields fun x => x.setIfInBounds 0 (.ref hp.objs.size))).get? a = some ({ cls := .ref C, dict := none, data := .fields #[.ref hp.objs.size, .none, .none, .none, .bool false, .none] } : Obj) := Heap.get?_update_self _ (Heap.get?_push_of_some _ ho) rfl
  refine wpAny_call (init_told T.eb hT hC ho hl (h hp.objs.size _ fr (Inv.write (t' := tk) (x := a) (e := a) (o := exm a C hp.objs.size none) I1 (by rw [upd_ne na, e]; exact True.intro) (.inl rfl) (fun b o hb z => ?_) ⟨_, h2⟩ (exm_ok h2))))
  exact (Heap.get?_update_other _ _ (Ne.symm hb)).trans z
/-- a.f = u, the first field -/
theorem field_st {E : Value → Shared → Prop} {Q : Unit → Shared → Prop} (T : XcC X.K C B nI iI bmB) (I : Inv X pins σ H s) (e : H a = some (exm a C t none)) (hno : PySem.W.takerIn X.K C f = some none) (ry : RelV y u)
    (h : ∀ dx s', H dx = none → dx ≠ a → Inv X pins σ (upd (upd H dx (exd dx [(f, y)])) a (exm a C t (some dx))) s' → Q () s') : wpAny (model X.prog X.w) X.A (setAttr (.ref a) f u) Q E s := by
  obtain ⟨nm, N, qn, bs, bm, hdct, sn, sub, ab, col, dd, k0, k1, k2, k3, k5, hC, hT⟩ := PySem.W.excInit_of I.kIn T.ei
  have ho := exm_at I.hok e
  obtain ⟨cd, hc, hcd⟩ := PySem.W.any_some T.hd
  obtain ⟨hp, g, d, tk, os⟩ := s
  have ha : a < hp.objs.size := Heap.lt_size ho
  have fr : H hp.objs.size = none := I.hok.fresh (Nat.le_refl _)
  have na : a ≠ hp.objs.size := Nat.ne_of_lt ha
  refine PySem.W.set_plain I.kIn (od := none) ⟨ho, rfl, rfl, trivial⟩ T.sa ?_
  refine PySem.W.osa_openX (od := none) T.sb I.kIn ⟨ho, rfl, rfl, trivial⟩ T.eo hno fun b => ?_
  refine wpAny_bind (wpAny_pure (wpAny_bind (PySem.W.instanceDict_exc ho (PySem.W.looks_clsIn I.kIn hc) hcd ?_)))
  show wpAny _ _ (Builtin.ObjectAttr.storeInDict hp.objs.size (.str f tk) f u) _ _ _
  have g1 : (hp.push (PySem.W.dictOf [] 0)).get? a = some ({ cls := .ref C, dict := none, data := .fields #[.ref t, .none, .none, .none, .bool false, .none] } : Obj) := Heap.get?_push_of_some _ ho
  have g2 : ((hp.push (PySem.W.dictOf [] 0)).update a fun o => { o with dict := some hp.objs.size }).get? a = some ({ cls := .ref C, dict := some hp.objs.size, data := .fields #[.ref t, .none, .none, .none, .bool false, .none] } : Obj) := Heap.get?_update_self _ g1 rfl
  have d1 : (hp.push (PySem.W.dictOf [] 0)).get? hp.objs.size = some (PySem.W.dictOf [] 0) := Heap.get?_push_at rfl rfl
  have d2 : ((hp.push (PySem.W.dictOf [] 0)).update a fun o => { o with dict := some hp.objs.size }).get? hp.objs.size = some (PySem.W.dictOf [] 0) := (Heap.get?_update_other _ _ na).trans d1
  have n1 : (hp.push (PySem.W.dictOf [] 0)).Ns1 hp.objs.size (fun _ => none) := Heap.Ns1.of_empty ⟨_, #[], _, d1, rfl, fun e he => absurd he (by simp), fun _ => rfl⟩
  have I1 := I.laid (t' := tk + 1) (a := hp.objs.size) (o := exd hp.objs.size []) (h' := hp.push (PySem.W.dictOf [] 0)) (fun b o z => Heap.get?_push_of_some _ z) (Nat.le_refl _) (exd_ok n1 fun _ => True.intro)
  have I2 := Inv.write (t' := tk + 1) (x := a) (e := a) (o := exm a C t (some hp.objs.size)) (h' := (hp.push (PySem.W.dictOf [] 0)).update a fun o => { o with dict := some hp.objs.size }) I1 (by rw [upd_ne na, e]; exact True.intro) (.inl rfl) (fun b o hb z => (Heap.get?_update_other _ _ (Ne.symm hb)).trans z) ⟨_, g2⟩ (exm_ok g2)
  refine HandSPX.store_in_new ⟨_, #[], _, d2, rfl, fun e he => absurd he (by simp), fun _ => rfl⟩ fun h' tk' hn hs => ?_
  have nd : hp.objs.size ≠ a := Ne.symm na
  obtain ⟨od, _, _, hod, _⟩ := id hn
  have I3 := Inv.write (t' := tk') (x := hp.objs.size) (e := hp.objs.size) (o := exd hp.objs.size [(f, y)]) (h' := h') I2 (by rw [upd_ne nd, upd_same]; exact True.intro) (.inl rfl) (fun b o hb z => (hs.2 b hb).trans z) ⟨_, hod⟩ (exd_ok hn (relO_put (fs := []) ry fun _ => True.intro))
  refine h hp.objs.size _ fr nd ?_
  have eH : upd (upd (upd H hp.objs.size (exd hp.objs.size [])) a (exm a C t (some hp.objs.size))) hp.objs.size (exd hp.objs.size [(f, y)]) = upd (upd H hp.objs.size (exd hp.objs.size [(f, y)])) a (exm a C t (some hp.objs.size)) := by
    rw [upd_comm na, upd_upd]
  rw [← eH]
  exact I3
end
end DX

namespace DX
open PySem PySem.Spec PyProof.Rows L2
/-! ### B.__init__(self, 'text'), self.f = e, in the body of an own __init__ -/
/-- what stands at B in B.__init__: an own class without an __init__ of its own, or a built-in one; the call goes to iI -/
structure Bi (K : PySem.W.Frag) (mg : Str → Option Value) (b : Str) (iI : String) : Prop where
  ex : (∃ Cb : Addr, mg b = some (.ref Cb) ∧ PySem.W.readsIn K Cb (.type "type") = true ∧ PySem.W.specialIn K (.ref Cb) "__getattribute__" = some (some (.builtin "type.__getattribute__")) ∧ PySem.W.findCls K (.ref Cb) (.type "type") "__init__" = some (.val (.builtin iI))) ∨
    (∃ T : String, mg b = none ∧ b ≠ "__name__" ∧ bootBuiltins b = some (.type T) ∧ typeOf (.type T) = pure (.type "type") ∧ Manifest.isStub T = false ∧ PySem.W.findCls K (.type T) (.type "type") "__init__" = some (.val (.builtin iI)))
def tBi (K : PySem.W.Frag) (iI : String) (ta : TA) : TE := fun σ H Q => ta σ H fun vs H1 => ∃ (a C t0 : Addr) (ws : List V) (B nI : String) (bmB : List Value), vs = .ref a :: ws ∧ ws.length ≤ 1000 ∧ XcC K C B nI iI bmB ∧ H1 a = some (exm a C t0 none) ∧
  ∀ t, H1 t = none → Q .non (upd (upd H1 t (.tup ws)) a (exm a C t none))
def tFs (K : PySem.W.Frag) (f : Str) (to te : TE) : TS := fun D σ H => te σ H fun y H1 => to σ H1 fun x H2 => ∃ (a C t : Addr) (B nI iI : String) (bmB : List Value), x = .ref a ∧ XcC K C B nI iI bmB ∧ PySem.W.takerIn K C f = some none ∧ H2 a = some (exm a C t none) ∧
  ∀ dx, H2 dx = none → dx ≠ a → D.nx σ (upd (upd H2 dx (exd dx [(f, y)])) a (exm a C t (some dx)))
section
variable {X : Cx} {o e : Expr} {es : List Expr} {to te : TE} {ta : TA} {f b : Str} {p p' p1 p2 pos : Pos} {iI : String}
theorem pe_bi {pl : Sem Bool} (hg : Gl X b) (W : Bi X.K X.mg b iI) (hdb : (b == ("__debug__" : Str)) = false) (hh : PySem.W.handedIn (.builtin iI) = true) (ha : PA X (e :: es) ta)
    (hc : eval (.Call (.Attribute (.Name b p1) "__init__" p2) (e :: es) [] pos) X.env = (do
      let ov ← eval (.Name b p1) X.env
      standAt p2.atName
      let (fn, first) ← holding [ov] (getMethod ov "__init__" pl)
      callWith pos fn first (backTo pos (starEach (e :: es) X.env)) (backToKw pos (keywordEach [] X.env))) := by rfl)
    (he : starEach (e :: es) X.env = (false, eval e X.env) :: starEach es X.env := by rfl) (hpl : (backTo pos (starEach es X.env)).any (·.1) = false := by rfl) :
    PE X (.Call (.Attribute (.Name b p1) "__init__" p2) (e :: es) [] pos) (tBi X.K iI ta) := by
  refine ⟨fun pins s σ H Q I h => ?_⟩
  have go : ∀ s0 : Shared, Inv X pins σ H s0 → wpAny (model X.prog X.w) X.A (callWith pos (Value.builtin iI) [] (backTo pos (starEach (e :: es) X.env)) []) (EP X pins σ Q) X.xe s0 := fun s0 I0 =>
    PyProof.Rows.callWith_method1 (thn (ha.run pos pins _ σ H _ I0 h) fun us s1 ⟨vs, H1, I1, r1, a, C, t0, ws, B, nI, bmB, ev, hl, T, ea, q⟩ => by
      subst ev
      cases r1 with
      | @cons _ u0 _ ur ra rw' =>
        obtain rfl : u0 = Value.ref a := ra
        exact init_st T I1 ea rw' (by rw [← Paired.length rw', sizeLine_eq]; omega) fun t1 s' n J => ⟨.non, _, J, rfl, q t1 n⟩) he hpl
  rcases W.ex with ⟨Cb, hm, hr, hs, hf⟩ | ⟨T, hm, hn, hb, ht, hst, hf⟩
  · refine PySem.W.methodCall_KW (ld_glob I hg hm ?_ hdb) hc
    exact PySem.W.method_cls I.kIn hs (PySem.W.cls_value I.kIn hr hf hh (go _ (I.tok _)))
  · refine PySem.W.methodCall_KW (ld_blt I hg hm hb ?_ hn hdb) hc
    obtain ⟨m, fr⟩ := I.fr
    exact PySem.W.method_type fr I.ok.mod.kin ht hst hf hh (go _ (I.tok _))
theorem ps_fs (ho : PE X o to) (he : PE X e te) (hs : swapsWith e (some (.Attribute o f p')) pos.line X.env = pure false := by rfl) : PS X (.Assign [.Attribute o f p'] e pos) (tFs X.K f to te) := by
  refine ⟨fun pins s σ H D I h => ?_⟩
  refine plainObj_wpAny_Assign_Attribute (thn (he.run pins s σ H _ I h) fun v s1 ⟨y, H1, I1, r1, q1⟩ => thn (ho.run pins s1 σ H1 _ I1 q1) fun u s2 ⟨x, H2, I2, r2, a, C, t, B, nI, iI, bmB, ex, T, hno, ea, q⟩ => ?_) hs
  subst ex
  obtain rfl : u = Value.ref a := r2
  exact field_st T I2 ea hno r1 fun dx s' n ne J => ⟨σ, _, J, q dx n ne⟩
end
/-- an own __init__: the text msg is handed on, the thing is stored as f -/
def spI (C : Addr) (f msg : Str) : Sp := fun vs H Q _ => ∃ (a t0 : Addr) (y : V) (H1 : Hp), vs = [.ref a, y] ∧ H1 a = none ∧ H = upd H1 a (exm a C t0 none) ∧
  ∀ t dx, H1 t = none → H1 dx = none → t ≠ a → dx ≠ a → dx ≠ t → Q .non (upd (upd (upd H1 t (.tup [.str msg])) dx (exd dx [(f, y)])) a (exm a C t (some dx)))
/-- an own exception class of the text -/
structure XKl (K : PySem.W.Frag) (C : Addr) (f msg : Str) (fI : Addr) (fd : FuncData) : Prop where
  xc : ∃ B nI iI bmB, XcC K C B nI iI bmB
  iC : PySem.W.findIn K (.ref C) "__init__" = some (some (.ref fI))
  tI : PySem.W.typeIn K (.ref fI) = some (.type "function")
section
variable {P : Program} {w : World} {K : PySem.W.Frag} {mg : Str → Option Value} {base : Heap}
theorem ok_init {C f0 : Addr} {fd : FuncData} {qual pn f b msg : Str} {params : Arguments} {body : List Stmt} {sc : Scope} {dvs : List V} {kws : List (Str × V)} {p1 p2 p3 p4 p5 p6 p7 p8 p9 p10 : Pos} {j : Nat} {B nI iI : String} {bmB : List Value}
    (F : FunD K "__init__" qual params body sc dvs kws f0 fd) (S : FnScope ["self", pn] ["self", pn] sc) (hB : body = [.Expr (.Call (.Attribute (.Name b p1) "__init__" p2) [.Name "self" p3, .Constant (.str msg) j p4] [] p5) p6, .Assign [.Attribute (.Name "self" p7) f p8] (.Name pn p9) p10])
    (T : XcC K C B nI iI bmB) (W : Bi K mg b iI) (ht : PySem.W.takerIn K C f = some none) (hg : sc.names.lookup b = some .globalImplicit) (h1 : sc.names.lookup ("self" : Str) = some .local) (h2 : sc.names.lookup pn = some .local) (hh : PySem.W.handedIn (.builtin iI) = true) (hdb : (b == ("__debug__" : Str)) = false)
    (hp1 : (pn == ("__debug__" : Str)) = false) (hp2 : (pn == ("__classdict__" : Str)) = false) (pl : Env → Sem Bool)
    (hc : ∀ env, eval (.Call (.Attribute (.Name b p1) "__init__" p2) [.Name "self" p3, .Constant (.str msg) j p4] [] p5) env = (do
      let ov ← eval (.Name b p1) env
      standAt p2.atName
      let (fn, first) ← holding [ov] (getMethod ov "__init__" (pl env))
      callWith p5 fn first (backTo p5 (starEach [.Name "self" p3, .Constant (.str msg) j p4] env)) (backToKw p5 (keywordEach [] env)))) : FnOk P w K mg base CX0 1 f0 fd ["self", pn] (spI C f msg) := by
  subst hB
  refine F.ok S (fun vs H Q E h => ?_) (fun cdv A outer s H vs Q E hr h => ?_)
  · obtain ⟨a, t0, y, H1, rfl, _⟩ := h
    rfl
  · obtain ⟨a, t0, y, H1, rfl, n1, rfl, q⟩ := h
    refine ⟨_, pss_cons (ps_expr (pe_bi hg W hdb hh (pa_cons (pe_var (i := 0) rfl (.inl h1) (by decide) (by decide)) (pa_cons pe_str pa_nil)) (hc _))) (pss_one (ps_fs (pe_var (i := 0) rfl (.inl h1) (by decide) (by decide)) (pe_var (i := 1) rfl (.inl h2) hp1 hp2))), ?_⟩
    refine ⟨_, rfl, ?_⟩
    refine ⟨a, C, t0, [.str msg], B, nI, bmB, rfl, Nat.le_of_ble_eq_true rfl, T, upd_same, fun t htn => ?_⟩
    have nta : t ≠ a := fun z => by
      rw [z, upd_same] at htn
      cases htn
    rw [upd_ne nta] at htn
    refine ⟨y, rfl, .ref a, rfl, a, C, t, B, nI, iI, bmB, rfl, T, ht, upd_same, fun dx hdx nda => ?_⟩
    rw [upd_ne nda] at hdx
    have ndt : dx ≠ t := fun z => by
      rw [z, upd_same] at hdx
      cases hdx
    rw [upd_ne ndt, upd_ne nda] at hdx
    have z := q t dx htn hdx nta nda ndt
    have eH : upd (upd (upd (upd (upd H1 a (exm a C t0 none)) t (.tup [.str msg])) a (exm a C t none)) dx (exd dx [(f, y)])) a (exm a C t (some dx)) = upd (upd (upd H1 t (.tup [.str msg])) dx (exd dx [(f, y)])) a (exm a C t (some dx)) := by
      rw [upd_comm (Ne.symm nda), upd_upd, upd_comm (Ne.symm nta), upd_comm (Ne.symm nda), upd_upd]
    show Q V.non _
    rw [eH]
    exact z
end
end DX

namespace DX
open PySem PySem.Spec PySem.W PySem.Calls PyProof.Rows
/-- what a class says so that its instances can be asked -/
structure XqC (K : Frag) (D : Addr) : Prop where
  ga : findIn K (.ref D) "__getattribute__" = some (some (.builtin "BaseException.__getattribute__"))
  gg : findIn K (.ref D) "__getattr__" = some none
  sb : subIn K (.ref D) (.type "BaseException") = some true
  hd : hasDictIn K D = true
  cl : findIn K (.ref D) "__class__" = some (some (.builtin "object.__class__"))
  ob : mroIn K D (.type "object") = some true
  st : findIn K (.ref D) "__str__" = some (some (.builtin "BaseException.__str__"))
structure XqG (K : Frag) : Prop where
  hn : specialIn K (.builtin "object.__class__") "__get__" = some (some (.builtin "getset_descriptor.__get__"))
  ht : takesIn K (.builtin "object.__class__") = some true
section
variable {pg : Program} {w : World} {Ar : Around} {Er : Value → Shared → Prop} {s : Shared} {K : Frag} {x D : Addr} {ox od : Obj}
theorem cls_of {Q : Option Value → Shared → Prop} (T : XqC K D) (G : XqG K) (X : K.In s.heap) (I : InstAt s.heap x ox D (some od)) (h : Q (some (.ref D)) { s with toks := s.toks + 1 }) : wpAny (model pg w) Ar (getAttr? (.ref x) "__class__") Q Er s := by
  have hf : findObj K D (some od) "__class__" = some (.bind (.builtin "getset_descriptor.__get__") (.builtin "object.__class__")) := findObj_data (by obtain ⟨z, hz, _⟩ := any_some T.hd; rw [hz]; rfl) T.cl G.hn G.ht
  obtain ⟨hp, gs, dr, tk, ost⟩ := s
  have l0 := I.type (M := model pg w)
  have l1 := looks_findIn (M := model pg w) X T.ga
  have l2 := looks_findIn (M := model pg w) X T.gg
  have l3 := looks_find (M := model pg w) X I hf
  have isB : Looks (model pg w) hp (isInstance (.ref x) (.type "BaseException")) true := l0.andThen (looks_subIn X T.sb)
  have b2 : (Value.builtin "BaseException.__getattribute__" == Value.builtin "object.__getattribute__") = false := by decide +kernel
  have b1 : (onTheHeap (Value.ref D) && Value.builtin "BaseException.__getattribute__" == Value.builtin "object.__getattribute__") = false := (by rw [b2]; rfl)
  unfold getAttr? getAttrBy? getAttrBy
  refine wpAny_bind (wpAny_mkText (wpAny_bind (wpAny_attempt (wpAny_holding (wpAny_bind (l0.at (wpAny_bind (l1.at ?_))))))))
  show wpAny _ _ (if (onTheHeap (Value.ref D) && Value.builtin "BaseException.__getattribute__" == Value.builtin "object.__getattribute__") = true then _ else _) _ _ ⟨hp, gs, dr, _, ost⟩
  rw [b1, if_neg Bool.false_ne_true]
  unfold getAttrByItsOwn hookBefore; refine wpAny_bind ?_
  rw [if_pos (show onTheHeap (Value.ref D) = true from rfl)]; refine l2.at (wpAny_bind (wpAny_attempt (wpAny_holding ?_)))
  unfold callGetattribute
  rw [show (false && onTheHeap (Value.builtin "BaseException.__getattribute__")) = false from rfl, if_neg Bool.false_ne_true]
  unfold boundAndCalled
  rw [PySem.F.excAttr_ValueError.ga.bind (.ref x)]; refine wpAny_bind (wpAny_pure ?_)
  show wpAny _ _ (call (.builtin "BaseException.__getattribute__") [.ref x, .str "__class__" tk]) _ _ ⟨hp, gs, dr, _, ost⟩
  refine wpAny_call (codeAny_call_builtin PySem.F.excAttr_ValueError.ga.plain PySem.F.entry_bexc_ga (@check_slot (model pg w) _ _ ⟨hp, gs, dr, tk + 1, ost⟩ "BaseException.__getattribute__" "BaseException" "__getattribute__" (.ref x) [.str "__class__" tk] [] _ (by decide +kernel) (by decide +kernel) isB (PySem.F.args_bexc_ga (.ref x) (.str "__class__" tk)) ?_))
  unfold Builtin.«object.__getattribute__»
  refine wpAny_bind (wpAny_of_eq (a := ((Value.ref x : Value), [Value.str "__class__" tk])) (by first | rfl | (simp only [slotArgs]; rfl)) ?_)
  refine wpAny_bind (wpAny_pure (wpAny_bind (l0.at (wpAny_bind (l3.at ?_)))))
  show wpAny _ _ (holding [Value.builtin "object.__class__"] (call (.builtin "getset_descriptor.__get__") [.builtin "object.__class__", .ref x, .ref D]) >>= ret) _ _ ⟨hp, gs, dr, _, ost⟩
  refine wpAny_bind (wpAny_holding (wpAny_call (class_get (s := ⟨hp, gs, dr, tk + 1, ost⟩) (ox := ox) (od := some od) X I T.ob (wpAny_pure ?_))))
  show wpAny _ _ (handedOut (.ref D)) _ _ ⟨hp, gs, dr, _, ost⟩
  rw [handedOut_of (v := .ref D) rfl]
  first
    | exact wpAny_pure (wpAny_pure h)
    | exact wpAny_pure h
    | exact wpAny_pure (wpAny_bind (wpAny_pure (wpAny_pure h)))
theorem kitx (T : XqC K D) (G : XqG K) : KitX K (.ref x) (.ref D) (fun h => InstAt h x ox D (some od)) := by
  obtain ⟨cdD, hcD, _⟩ := any_some T.hd
  have hl : ∃ c d cd sl, K.lookup D = some ⟨c, d, .cls cd, sl⟩ := by
    unfold clsIn at hcD
    split at hcD
    · rename_i c d cd sl ho
      exact ⟨c, d, cd, sl, ho⟩
    · cases hcD
  obtain ⟨c, d, cd, sl, ho⟩ := hl
  refine ⟨fun _ _ _ I => I.type, fun _ _ X _ A' Q' E' s' k q => ?_, fun h tp dd its n sl2 X htp => Bool.eq_false_iff.mpr fun q => ?_, fun X I k => cls_of T G X I k⟩
  · unfold isType loadHead
    exact wpAny_bind (wpAny_loadPart (k _ _ (X _ _ ho)) (wpAny_pure q))
  · have e : D = tp := Value.ref.inj (beq_iff_eq.mp q)
    subst e
    cases (X _ _ ho).symm.trans htp
end
end DX

/-! A second layer over the hand layer: symbolic states (values, a store of objects) in place of slots and heaps. -/
namespace DL
open PySem PySem.Spec PyProof.Rows L2 DX

/-! ### immutable data in a heap -/
mutual
inductive Im (K : PySem.W.Frag) (H : Hp) : V → PyData → Prop
  | non : Im K H .non .none
  | bl (b : Bool) : Im K H (.bl b) (.bool b)
  | int (i : Int) : Im K H (.int i) (.int i)
  | str (x : Str) : Im K H (.str x) (.str x)
  | tup {a : Addr} {xs : List V} {ds : List PyData} : H a = some (.tup xs) → ImAll K H xs ds → Im K H (.ref a) (.tuple ds)
inductive ImAll (K : PySem.W.Frag) (H : Hp) : List V → List PyData → Prop
  | nil : ImAll K H [] []
  | cons {v : V} {vs : List V} {d : PyData} {ds : List PyData} : Im K H v d → ImAll K H vs ds → ImAll K H (v :: vs) (d :: ds)
end
/-- every tuple is kept -/
def Tk (H H' : Hp) : Prop := ∀ a xs, H a = some (.tup xs) → H' a = some (.tup xs)
theorem Tk.refl (H : Hp) : Tk H H := fun _ _ h => h
theorem Tk.trans {H H1 H2 : Hp} (a : Tk H H1) (b : Tk H1 H2) : Tk H H2 := fun c o h => b c o (a c o h)
theorem Tk.new {H : Hp} {p : Addr} {o : HO} (h : H p = none) : Tk H (upd H p o) := fun a xs e => by
  rw [upd_ne (ne_of_none e h)]
  exact e
theorem Tk.mut {H : Hp} {p : Addr} {o u : HO} (h : H p = some u) (hu : ∀ xs, u ≠ .tup xs) : Tk H (upd H p o) := fun a xs e => by
  have n : a ≠ p := fun z => by
    rw [z, h] at e
    exact hu xs (Option.some.inj e)
  rw [upd_ne n]
  exact e
section
variable {K : PySem.W.Frag} {H H' : Hp}
mutual
theorem Im.keep (k : Tk H H') : ∀ {v : V} {d : PyData}, Im K H v d → Im K H' v d
  | _, _, .non => .non
  | _, _, .bl b => .bl b
  | _, _, .int i => .int i
  | _, _, .str x => .str x
  | _, _, .tup h a => .tup (k _ _ h) (ImAll.keep k a)
theorem ImAll.keep (k : Tk H H') : ∀ {vs : List V} {ds : List PyData}, ImAll K H vs ds → ImAll K H' vs ds
  | _, _, .nil => .nil
  | _, _, .cons h a => .cons (Im.keep k h) (ImAll.keep k a)
end
mutual
theorem Im.dp : ∀ {v : V} {d : PyData}, Im K H v d → Dp K H v d
  | _, _, .non => .non
  | _, _, .bl b => .bl b
  | _, _, .int i => .int i
  | _, _, .str x => .str x
  | _, _, .tup h a => .tup (SqT.of h) (ImAll.dp a)
theorem ImAll.dp : ∀ {vs : List V} {ds : List PyData}, ImAll K H vs ds → DpAll K H vs ds
  | _, _, .nil => .nil
  | _, _, .cons h a => .cons (Im.dp h) (ImAll.dp a)
end
theorem ImAll.length : ∀ {vs : List V} {ds : List PyData}, ImAll K H vs ds → vs.length = ds.length
  | _, _, .nil => rfl
  | _, _, .cons _ a => congrArg (· + 1) (ImAll.length a)
theorem ImAll.get : ∀ {vs : List V} {ds : List PyData} {i : Nat} {d : PyData}, ImAll K H vs ds → ds[i]? = some d → ∃ v, vs[i]? = some v ∧ Im K H v d
  | _, _, _, _, .nil, e => by simp at e
  | _, _, 0, _, .cons h _, e => by simp at e; subst e; exact ⟨_, rfl, h⟩
  | _, _, i + 1, d, .cons _ a, e => by
    obtain ⟨v, h1, h2⟩ := ImAll.get (i := i) (d := d) a (by simpa using e)
    exact ⟨v, by simpa using h1, h2⟩
theorem ImAll.getR : ∀ {vs : List V} {ds : List PyData} {i : Nat} {v : V}, ImAll K H vs ds → vs[i]? = some v → ∃ d, ds[i]? = some d ∧ Im K H v d
  | _, _, _, _, .nil, e => by simp at e
  | _, _, 0, _, .cons h _, e => by simp at e; subst e; exact ⟨_, rfl, h⟩
  | _, _, i + 1, v, .cons _ a, e => by
    obtain ⟨d, h1, h2⟩ := ImAll.getR (i := i) (v := v) a (by simpa using e)
    exact ⟨d, by simpa using h1, h2⟩
theorem ImAll.append : ∀ {vs ws : List V} {ds es : List PyData}, ImAll K H vs ds → ImAll K H ws es → ImAll K H (vs ++ ws) (ds ++ es)
  | _, _, _, _, .nil, b => b
  | _, _, _, _, .cons h a, b => .cons h (ImAll.append a b)
theorem ImAll.take : ∀ {vs : List V} {ds : List PyData} (n : Nat), ImAll K H vs ds → ImAll K H (vs.take n) (ds.take n)
  | _, _, 0, _ => .nil
  | _, _, _ + 1, .nil => .nil
  | _, _, n + 1, .cons h a => .cons h (ImAll.take n a)
theorem ImAll.drop : ∀ {vs : List V} {ds : List PyData} (n : Nat), ImAll K H vs ds → ImAll K H (vs.drop n) (ds.drop n)
  | _, _, 0, a => a
  | _, _, _ + 1, .nil => .nil
  | _, _, n + 1, .cons _ a => ImAll.drop n a
theorem ImAll.ints : ∀ {vs : List V} {ns : List Int}, ImAll K H vs (ns.map PyData.int) → vs = ns.map V.int
  | _, [], h => by cases h; rfl
  | _, n :: ns, h => by
    cases h with
    | cons a b => cases a; rw [ImAll.ints b]; rfl
theorem ImAll.of_ints : ∀ (ns : List Int), ImAll K H (ns.map V.int) (ns.map PyData.int)
  | [] => .nil
  | n :: ns => .cons (.int n) (ImAll.of_ints ns)
end

/-! ### symbolic values, objects -/
inductive S where
  /-- immutable data -/
  | d (x : PyData)
  /-- the k-th object of the store -/
  | p (k : Nat)
  /-- this very value -/
  | v (u : V)
  /-- a tuple of such -/
  | t (xs : List S)
inductive MO where
  | lst (xs : List S)
  /-- a list that is read alone (the script) -/
  | rl (xs : List S)
  | dk (kvs : List (Key × S))
  | dt (kvs : List (List Key × S))
  /-- an instance -/
  | ins (C : Addr) (fs : List (Str × S))
  /-- an exception of the class at C, made with the text m, its own dict where s points -/
  | xo (C : Addr) (m : Str) (s : S)
  /-- an exception's own dict -/
  | xd (fs : List (Str × S))
  /-- anything that is said otherwise -/
  | oth (φ : Hp → Addr → Prop)

mutual
inductive SV (K : PySem.W.Frag) (H : Hp) (as : List Addr) : S → V → Prop
  | d {x : PyData} {v : V} : Im K H v x → SV K H as (.d x) v
  | p {k : Nat} {a : Addr} : as[k]? = some a → SV K H as (.p k) (.ref a)
  | v (u : V) : SV K H as (.v u) u
  | t {a : Addr} {vs : List V} {ss : List S} : H a = some (.tup vs) → SVs K H as ss vs → SV K H as (.t ss) (.ref a)
inductive SVs (K : PySem.W.Frag) (H : Hp) (as : List Addr) : List S → List V → Prop
  | nil : SVs K H as [] []
  | cons {s : S} {ss : List S} {v : V} {vs : List V} : SV K H as s v → SVs K H as ss vs → SVs K H as (s :: ss) (v :: vs)
end
section
variable {K : PySem.W.Frag} {H : Hp} {as : List Addr}
theorem SVs.pr : ∀ {ss : List S} {vs : List V}, SVs K H as ss vs → Paired (SV K H as) ss vs
  | _, _, .nil => .nil
  | _, _, .cons h a => .cons h (SVs.pr a)
theorem SVs.of : ∀ {ss : List S} {vs : List V}, Paired (SV K H as) ss vs → SVs K H as ss vs
  | _, _, .nil => .nil
  | _, _, .cons h a => .cons h (SVs.of a)
end
def KSV {κ : Type} (K : PySem.W.Frag) (H : Hp) (as : List Addr) : List (κ × S) → List (κ × V) → Prop := Paired fun p q => p.1 = q.1 ∧ SV K H as p.2 q.2
def MOk (K : PySem.W.Frag) (H : Hp) (as : List Addr) (a : Addr) : MO → Prop
  | .lst xs => ∃ vs, H a = some (.lst vs) ∧ SVs K H as xs vs
  | .rl xs => ∃ vs, SqL K H a vs ∧ SVs K H as xs vs
  | .dk kvs => ∃ vs, H a = some (.dK vs) ∧ KSV K H as kvs vs
  | .dt kvs => ∃ vs, H a = some (.dT vs) ∧ KSV K H as kvs vs
  | .ins C fs => ∃ dx vs, H a = some (.ins C dx vs) ∧ KSV K H as fs vs
  | .xo C m s => ∃ d t, SV K H as s (.ref d) ∧ H a = some (exm a C t (some d)) ∧ H t = some (.tup [.str m])
  | .xd fs => ∃ vs, H a = some (exd a vs) ∧ KSV K H as fs vs
  | .oth φ => φ H a
end DL

namespace DL
open PySem PySem.Spec PyProof.Rows L2

/-- tuples are kept, the store has grown at its end -/
structure Le (as : List Addr) (H : Hp) (as' : List Addr) (H' : Hp) : Prop where
  pre : as <+: as'
  tk : Tk H H'
theorem Le.refl (as : List Addr) (H : Hp) : Le as H as H := ⟨List.prefix_refl _, Tk.refl _⟩
theorem Le.trans {as as1 as2 : List Addr} {H H1 H2 : Hp} (a : Le as H as1 H1) (b : Le as1 H1 as2 H2) : Le as H as2 H2 := ⟨a.pre.trans b.pre, a.tk.trans b.tk⟩
theorem Le.h {as : List Addr} {H H' : Hp} (k : Tk H H') : Le as H as H' := ⟨List.prefix_refl _, k⟩
theorem pre_get {as as' : List Addr} (h : as <+: as') {k : Nat} {a : Addr} (e : as[k]? = some a) : as'[k]? = some a := by
  obtain ⟨t, rfl⟩ := h
  rw [List.getElem?_append_left (List.getElem?_eq_some_iff.mp e).1]
  exact e
theorem Paired.mapA {α β : Type} {F G : α → β → Prop} : ∀ {l₁ : List α} {l₂ : List β}, Paired F l₁ l₂ → (∀ a b, F a b → G a b) → Paired G l₁ l₂
  | _, _, .nil, _ => .nil
  | _, _, .cons r t, f => .cons (f _ _ r) (Paired.mapA t f)
theorem Paired.at {α β : Type} {F : α → β → Prop} : ∀ {l₁ : List α} {l₂ : List β} {i : Nat} {x : α}, Paired F l₁ l₂ → l₁[i]? = some x → ∃ y, l₂[i]? = some y ∧ F x y
  | _, _, _, _, .nil, e => by simp at e
  | _, _, 0, _, .cons h _, e => by simp at e; subst e; exact ⟨_, rfl, h⟩
  | _, _, i + 1, x, .cons _ a, e => by
    obtain ⟨v, h1, h2⟩ := Paired.at (i := i) (x := x) a (by simpa using e)
    exact ⟨v, by simpa using h1, h2⟩
theorem Paired.atR {α β : Type} {F : α → β → Prop} : ∀ {l₁ : List α} {l₂ : List β} {i : Nat} {y : β}, Paired F l₁ l₂ → l₂[i]? = some y → ∃ x, l₁[i]? = some x ∧ F x y
  | _, _, _, _, .nil, e => by simp at e
  | _, _, 0, _, .cons h _, e => by simp at e; subst e; exact ⟨_, rfl, h⟩
  | _, _, i + 1, x, .cons _ a, e => by
    obtain ⟨v, h1, h2⟩ := Paired.atR (i := i) (y := x) a (by simpa using e)
    exact ⟨v, by simpa using h1, h2⟩
theorem Paired.app {α β : Type} {F : α → β → Prop} : ∀ {l₁ l₃ : List α} {l₂ l₄ : List β}, Paired F l₁ l₂ → Paired F l₃ l₄ → Paired F (l₁ ++ l₃) (l₂ ++ l₄)
  | _, _, _, _, .nil, b => b
  | _, _, _, _, .cons h a, b => .cons h (Paired.app a b)
theorem Paired.set {α β : Type} {F : α → β → Prop} {x : α} {y : β} (r : F x y) : ∀ {l₁ : List α} {l₂ : List β} (i : Nat), Paired F l₁ l₂ → Paired F (l₁.set i x) (l₂.set i y)
  | _, _, _, .nil => .nil
  | _, _, 0, .cons _ t => .cons r t
  | _, _, i + 1, .cons q t => .cons q (Paired.set r i t)
theorem Paired.eraseIdx {α β : Type} {F : α → β → Prop} : ∀ {l₁ : List α} {l₂ : List β} (i : Nat), Paired F l₁ l₂ → Paired F (l₁.eraseIdx i) (l₂.eraseIdx i)
  | _, _, _, .nil => .nil
  | _, _, 0, .cons _ t => t
  | _, _, i + 1, .cons q t => .cons q (Paired.eraseIdx i t)
theorem Paired.take {α β : Type} {F : α → β → Prop} : ∀ {l₁ : List α} {l₂ : List β} (n : Nat), Paired F l₁ l₂ → Paired F (l₁.take n) (l₂.take n)
  | _, _, 0, _ => .nil
  | _, _, _ + 1, .nil => .nil
  | _, _, n + 1, .cons r t => .cons r (Paired.take n t)
theorem Paired.drop {α β : Type} {F : α → β → Prop} : ∀ {l₁ : List α} {l₂ : List β} (n : Nat), Paired F l₁ l₂ → Paired F (l₁.drop n) (l₂.drop n)
  | _, _, 0, r => r
  | _, _, _ + 1, .nil => .nil
  | _, _, n + 1, .cons _ t => Paired.drop n t
section
variable {K : PySem.W.Frag} {H H' : Hp} {as as' : List Addr}
mutual
theorem SV.le (k : Le as H as' H') : ∀ {s : S} {v : V}, SV K H as s v → SV K H' as' s v
  | _, _, .d h => .d (Im.keep k.tk h)
  | _, _, .p h => .p (pre_get k.pre h)
  | _, _, .v u => .v u
  | _, _, .t h r => .t (k.tk _ _ h) (SVs.le k r)
theorem SVs.le (k : Le as H as' H') : ∀ {ss : List S} {vs : List V}, SVs K H as ss vs → SVs K H' as' ss vs
  | _, _, .nil => .nil
  | _, _, .cons h a => .cons (SV.le k h) (SVs.le k a)
end
theorem SVs.length {ss : List S} {vs : List V} (h : SVs K H as ss vs) : ss.length = vs.length := h.pr.length
theorem SVs.at {ss : List S} {vs : List V} {i : Nat} {s : S} (h : SVs K H as ss vs) (e : ss[i]? = some s) : ∃ v, vs[i]? = some v ∧ SV K H as s v := Paired.at h.pr e
theorem SVs.atR {ss : List S} {vs : List V} {i : Nat} {v : V} (h : SVs K H as ss vs) (e : vs[i]? = some v) : ∃ s, ss[i]? = some s ∧ SV K H as s v := Paired.atR h.pr e
theorem SVs.app {ss ts : List S} {vs ws : List V} (h : SVs K H as ss vs) (g : SVs K H as ts ws) : SVs K H as (ss ++ ts) (vs ++ ws) := .of (Paired.app h.pr g.pr)
theorem SVs.set {ss : List S} {vs : List V} {s : S} {v : V} (r : SV K H as s v) (i : Nat) (h : SVs K H as ss vs) : SVs K H as (ss.set i s) (vs.set i v) := .of (Paired.set r i h.pr)
theorem SVs.erase {ss : List S} {vs : List V} (i : Nat) (h : SVs K H as ss vs) : SVs K H as (ss.eraseIdx i) (vs.eraseIdx i) := .of (Paired.eraseIdx i h.pr)
theorem SVs.take {ss : List S} {vs : List V} (n : Nat) (h : SVs K H as ss vs) : SVs K H as (ss.take n) (vs.take n) := .of (Paired.take n h.pr)
theorem SVs.drop {ss : List S} {vs : List V} (n : Nat) (h : SVs K H as ss vs) : SVs K H as (ss.drop n) (vs.drop n) := .of (Paired.drop n h.pr)
theorem KSV.le {κ : Type} (k : Le as H as' H') {ss : List (κ × S)} {vs : List (κ × V)} (h : KSV K H as ss vs) : KSV K H' as' ss vs := Paired.mapA h fun _ _ q => ⟨q.1, SV.le k q.2⟩
/-- the data of a list of data -/
theorem SVs.data : ∀ {ds : List PyData} {vs : List V}, SVs K H as (ds.map S.d) vs → ImAll K H vs ds
  | [], _, h => by cases h; exact .nil
  | d :: ds, _, h => by
    cases h with
    | cons a b =>
      cases a with
      | d q => exact .cons q (SVs.data b)
theorem SVs.ofData : ∀ {ds : List PyData} {vs : List V}, ImAll K H vs ds → SVs K H as (ds.map S.d) vs
  | _, _, .nil => .nil
  | _, _, .cons h a => .cons (.d h) (SVs.ofData a)
/-- an object is what it was: its own place, the tuples, the own dict -/
theorem MOk.le {a : Addr} (k : Le as H as' H') (ha : H' a = H a) : ∀ {m : MO}, (∀ φ, m = .oth φ → φ H a → φ H' a) → MOk K H as a m → MOk K H' as' a m
  | .lst _, _, ⟨vs, h, r⟩ => ⟨vs, by rw [ha]; exact h, r.le k⟩
  | .rl _, _, ⟨vs, h, r⟩ => ⟨vs, by
      rcases h with h | h
      · exact .inl (by rcases h with h | ⟨o, h⟩; exact .inl (by rw [ha]; exact h); exact .inr ⟨o, by rw [ha]; exact h⟩)
      · exact .inr h, r.le k⟩
  | .dk _, _, ⟨vs, h, r⟩ => ⟨vs, by rw [ha]; exact h, r.le k⟩
  | .dt _, _, ⟨vs, h, r⟩ => ⟨vs, by rw [ha]; exact h, r.le k⟩
  | .ins _ _, _, ⟨dx, vs, h, r⟩ => ⟨dx, vs, by rw [ha]; exact h, r.le k⟩
  | .xo _ _ _, _, ⟨d, t, h1, h2, h3⟩ => ⟨d, t, h1.le k, by rw [ha]; exact h2, k.tk _ _ h3⟩
  | .xd _, _, ⟨vs, h, r⟩ => ⟨vs, by rw [ha]; exact h, r.le k⟩
  | .oth φ, f, h => f φ rfl h
end
/-- an object told otherwise stands as long as all that was tracked stands -/
def Stands (φ : Hp → Addr → Prop) : Prop := ∀ H H' a, φ H a → H' a = H a → φ H' a
/-- the store's objects stand where they should; H0 at the entry, as0 the entry's objects -/
structure DenM (K : PySem.W.Frag) (H0 : Hp) (as0 : List Addr) (M : List MO) (as : List Addr) (H : Hp) : Prop where
  nd : as.Nodup
  len : as.length = M.length
  new : ∃ l, as = as0 ++ l ∧ ∀ a ∈ l, H0 a = none
  le : Tk H0 H
  fr : ∀ a o, H0 a = some o → a ∉ as → H a = some o
  mem : ∀ (k : Nat) m a, M[k]? = some m → as[k]? = some a → MOk K H as a m
  there : ∀ a ∈ as, ∃ o, H a = some o ∧ ∀ xs, o ≠ .tup xs
  st : ∀ (k : Nat) φ, M[k]? = some (.oth φ) → Stands φ
structure Den (K : PySem.W.Frag) (H0 : Hp) (as0 : List Addr) (Γ : List (Option S)) (M : List MO) (as : List Addr) (σ : L2.St) (H : Hp) : Prop where
  m : DenM K H0 as0 M as H
  len : σ.length = Γ.length
  loc : ∀ (i : Nat) s, Γ[i]? = some (some s) → ∃ v, σ[i]? = some (some v) ∧ SV K H as s v
section
variable {K : PySem.W.Frag} {H0 H H' : Hp} {as0 as as' : List Addr} {Γ : List (Option S)} {M M' : List MO} {σ : L2.St}
/-- the slots stay -/
theorem Den.next (D : Den K H0 as0 Γ M as σ H) (k : Le as H as' H') (m : DenM K H0 as0 M' as' H') : Den K H0 as0 Γ M' as' σ H' :=
  ⟨m, D.len, fun i s e => let ⟨v, h1, h2⟩ := D.loc i s e; ⟨v, h1, h2.le k⟩⟩
theorem Den.set (D : Den K H0 as0 Γ M as σ H) {i : Nat} {s : S} {v : V} (r : SV K H as s v) : Den K H0 as0 (Γ.set i (some s)) M as (σ.set i (some v)) H := by
  refine ⟨D.m, by simpa using D.len, fun j t e => ?_⟩
  by_cases h : i = j
  · subst h
    have hl : i < Γ.length := by
      have q := (List.getElem?_eq_some_iff.mp e).1
      simpa using q
    rw [List.getElem?_set_self hl] at e
    cases e
    exact ⟨v, List.getElem?_set_self (by rw [D.len]; exact hl), r⟩
  · rw [List.getElem?_set_ne h] at e ⊢
    exact D.loc j t e
/-- what is new lies apart from the store -/
theorem DenM.notin (D : DenM K H0 as0 M as H) {p : Addr} (h : H p = none) : p ∉ as := fun z => by
  obtain ⟨o, e, _⟩ := D.there p z
  rw [h] at e
  cases e
theorem DenM.h0 (D : DenM K H0 as0 M as H) {p : Addr} (h : H p = none) : H0 p = none := by
  cases e : H0 p with
  | none => rfl
  | some o =>
    have q := D.fr p o e (D.notin h)
    rw [h] at q
    cases q
/-- a heap that has only grown -/
theorem DenM.grow (D : DenM K H0 as0 M as H) (k : Same H H') : DenM K H0 as0 M as H' where
  nd := D.nd
  len := D.len
  new := D.new
  le := D.le.trans fun a xs e => k a _ e
  fr := fun a o e h => k a o (D.fr a o e h)
  mem := fun j m a e1 e2 => by
    have ha : H' a = H a := by
      obtain ⟨o, e, _⟩ := D.there a (List.mem_of_getElem? e2)
      rw [e, k a o e]
    exact MOk.le (.h fun a xs e => k a _ e) ha (fun φ e h => by subst e; exact D.st j φ e1 H H' a h ha) (D.mem j m a e1 e2)
  there := fun a h => let ⟨o, e, n⟩ := D.there a h; ⟨o, k a o e, n⟩
  st := D.st
theorem Same.tk {H H' : Hp} (k : Same H H') : Tk H H' := fun a _ e => k a _ e
theorem Same.new {H : Hp} {p : Addr} {o : HO} (h : H p = none) : Same H (upd H p o) := fun a u e => by
  rw [upd_ne (ne_of_none e h)]
  exact e
/-- a new object becomes one of the store -/
theorem DenM.push (D : DenM K H0 as0 M as H) {p : Addr} {o : HO} {m : MO} (h : H p = none) (hn : ∀ xs, o ≠ .tup xs) (hm : MOk K (upd H p o) (as ++ [p]) p m) (hs : ∀ φ, m = .oth φ → Stands φ) : DenM K H0 as0 (M ++ [m]) (as ++ [p]) (upd H p o) := by
  have G := D.grow (Same.new (o := o) h)
  have np := D.notin h
  refine ⟨?_, by simp [D.len], ?_, G.le, fun a u e hx => G.fr a u e fun z => hx (List.mem_append_left _ z), fun k m' a e1 e2 => ?_, fun a ha => ?_, fun k φ e => ?_⟩
  · rw [List.nodup_append]
    exact ⟨D.nd, by simp, fun a ha b hb => by
      simp at hb
      subst hb
      exact fun z => np (z ▸ ha)⟩
  · obtain ⟨l, e, hl⟩ := D.new
    refine ⟨l ++ [p], by rw [e, List.append_assoc], fun a ha => ?_⟩
    rcases List.mem_append.mp ha with z | z
    · exact hl a z
    · simp at z
      subst z
      exact D.h0 h
  · have kl : Le as (upd H p o) (as ++ [p]) (upd H p o) := ⟨List.prefix_append _ _, Tk.refl _⟩
    by_cases hk : k < M.length
    · rw [List.getElem?_append_left hk] at e1
      rw [List.getElem?_append_left (by rw [D.len]; exact hk)] at e2
      exact MOk.le kl rfl (fun φ _ z => z) (G.mem k m' a e1 e2)
    · have ek : k = M.length := by
        have q := (List.getElem?_eq_some_iff.mp e1).1
        simp at q
        omega
      subst ek
      rw [List.getElem?_append_right (Nat.le_refl _)] at e1
      rw [← D.len, List.getElem?_append_right (Nat.le_refl _)] at e2
      simp at e1 e2
      subst e1 e2
      exact hm
  · rcases List.mem_append.mp ha with z | z
    · exact G.there a z
    · simp at z
      subst z
      exact ⟨o, upd_same, hn⟩
  · by_cases hk : k < M.length
    · rw [List.getElem?_append_left hk] at e
      exact D.st k φ e
    · have ek : k = M.length := by
        have q := (List.getElem?_eq_some_iff.mp e).1
        simp at q
        omega
      subst ek
      rw [List.getElem?_append_right (Nat.le_refl _)] at e
      simp at e
      exact hs φ e
/-- an object of the store is written -/
theorem DenM.write (D : DenM K H0 as0 M as H) {k : Nat} {a : Addr} {o u : HO} {m : MO} (hk : k < M.length) (ea : as[k]? = some a) (h : H a = some u) (hn : ∀ xs, o ≠ .tup xs) (hm : MOk K (upd H a o) as a m) (hs : ∀ φ, m = .oth φ → Stands φ) :
    DenM K H0 as0 (M.set k m) as (upd H a o) := by
  have ha : a ∈ as := List.mem_of_getElem? ea
  have t : Tk H (upd H a o) := fun b xs e => by
    have n : b ≠ a := fun z => by
      obtain ⟨o', e', n'⟩ := D.there a ha
      rw [z, e'] at e
      exact n' xs (Option.some.inj e)
    rw [upd_ne n]
    exact e
  refine ⟨D.nd, by simp [D.len], D.new, D.le.trans t, fun b o' e hb => ?_, fun j m' b e1 e2 => ?_, fun b hb => ?_, fun j φ e => ?_⟩
  · rw [upd_ne fun z => hb (by rw [z]; exact ha)]
    exact D.fr b o' e hb
  · by_cases hj : k = j
    · subst hj
      rw [List.getElem?_set_self hk] at e1
      cases e1
      rw [ea] at e2
      cases e2
      exact hm
    · rw [List.getElem?_set_ne hj] at e1
      have nb : b ≠ a := fun z => by
        subst z
        obtain ⟨h1, q1⟩ := List.getElem?_eq_some_iff.mp ea
        obtain ⟨h2, q2⟩ := List.getElem?_eq_some_iff.mp e2
        exact hj ((List.getElem_inj D.nd).mp (q1.trans q2.symm))
      exact MOk.le (.h t) (upd_ne nb) (fun φ e z => by subst e; exact D.st j φ e1 H _ b z (upd_ne nb)) (D.mem j m' b e1 e2)
  · by_cases hba : b = a
    · subst hba
      exact ⟨o, upd_same, hn⟩
    · rw [upd_ne hba]
      exact D.there b hb
  · by_cases hj : k = j
    · subst hj
      rw [List.getElem?_set_self hk] at e
      cases e
      exact hs φ rfl
    · rw [List.getElem?_set_ne hj] at e
      exact D.st j φ e
/-- the last objects are forgotten -/
theorem DenM.take (D : DenM K H0 as0 M as H) {n : Nat} (h0 : as0.length ≤ n) (hm : ∀ (k : Nat) m a, k < n → M[k]? = some m → as[k]? = some a → MOk K H as a m → MOk K H (as.take n) a m) : DenM K H0 as0 (M.take n) (as.take n) H := by
  obtain ⟨l, e, hl⟩ := D.new
  refine ⟨D.nd.sublist (List.take_sublist _ _), by simp [D.len], ⟨l.take (n - as0.length), ?_, fun a ha => hl a (List.mem_of_mem_take ha)⟩, D.le, fun a o h1 h2 => ?_, fun k m a e1 e2 => ?_, fun a ha => D.there a (List.mem_of_mem_take ha), fun k φ e1 => ?_⟩
  · rw [e, List.take_append]
    congr 1
    exact List.take_of_length_le h0
  · refine D.fr a o h1 fun z => ?_
    rw [e] at z h2
    rcases List.mem_append.mp z with z | z
    · refine h2 ?_
      rw [List.take_append, List.take_of_length_le h0]
      exact List.mem_append_left _ z
    · rw [hl a z] at h1
      cases h1
  · rw [List.getElem?_take] at e1 e2
    split at e1
    · rename_i hk
      rw [if_pos hk] at e2
      exact hm k m a hk e1 e2 (D.mem k m a e1 e2)
    · cases e1
  · rw [List.getElem?_take] at e1
    split at e1
    · exact D.st k φ e1
    · cases e1
end
end DL

namespace DL
open PySem PySem.Spec PyProof.Rows L2

/-! ### contexts -/
/-- what is fixed of a body's context -/
structure Cs where
  P : Program
  w : World
  K : PySem.W.Frag
  mg : Str → Option Value
  base : Heap
  N : List Str
  sc : Scope
  k : Nat
  own : Str → Bool
  /-- what is fixed of the entry: its heap, its objects -/
  ent : Hp → List Addr → Prop := fun _ _ => True
structure OkX (c : Cs) (X : Cx) : Prop where
  P : X.prog = c.P
  w : X.w = c.w
  K : X.K = c.K
  mg : X.mg = c.mg
  base : X.base = c.base
  N : X.N = c.N
  sc : X.env.scope = c.sc
  calm : X.calm = true
  room : Room c.k X.A
  nd : c.N.Nodup
  kind : c.sc.kind = .function
  own : PassesOwn (model X.prog X.w) X.A X.env X.xe
  fn : ∀ x, c.own x = true → X.fn x = true

structure OkE (c : Cs) (X : Cx) (H0 : Hp) (as0 : List Addr) : Prop extends OkX c X where
  ent : c.ent H0 as0
instance {c : Cs} {X : Cx} {H0 : Hp} {as0 : List Addr} : CoeOut (OkE c X H0 as0) (OkX c X) := ⟨OkE.toOkX⟩
def tE (X : Cx) (e : Expr) : TE := fun σ H Q => ∀ pins s, Inv X pins σ H s → wpAny (model X.prog X.w) X.A (eval e X.env) (EP X pins σ Q) X.xe s
def tT (X : Cx) (e : Expr) : TT := fun σ H Q => ∀ pins s, Inv X pins σ H s → wpAny (model X.prog X.w) X.A (isTrue e X.env (eval e X.env)) (TP X pins σ Q) X.xe s
def tW (X : Cx) (e : Expr) : TT := fun σ H Q => ∀ whole pins s, Inv X pins σ H s → wpAny (model X.prog X.w) X.A (isTrue e X.env whole) (TP X pins σ Q) X.xe s
def tA (X : Cx) (es : List Expr) : TA := fun σ H Q => ∀ pos pins s, Inv X pins σ H s → wpAny (model X.prog X.w) X.A (spliced (backTo pos (starEach es X.env))) (AP X pins σ Q) X.xe s
def tS (X : Cx) (st : Stmt) : TS := fun D σ H => ∀ pins s, Inv X pins σ H s → wpAny (model X.prog X.w) X.A (exec st X.env) (SP X pins D) X.xe s
def tB (X : Cx) (st : List Stmt) : TS := fun D σ H => ∀ pins s, Inv X pins σ H s → wpAny (model X.prog X.w) X.A (execs st X.env) (SP X pins D) X.xe s
theorem pE (X : Cx) (e : Expr) : PE X e (tE X e) := ⟨fun pins s σ H Q I h => h pins s I⟩
theorem pT (X : Cx) (e : Expr) : PT X e (tT X e) := ⟨fun pins s σ H Q I h => h pins s I⟩
theorem pW (X : Cx) (e : Expr) : PW X e (tW X e) := ⟨fun wh pins s σ H Q I h => h wh pins s I⟩
theorem pA (X : Cx) (e : List Expr) : PA X e (tA X e) := ⟨fun pos pins s σ H Q I h => h pos pins s I⟩
theorem pS (X : Cx) (e : Stmt) : PS X e (tS X e) := ⟨fun pins s σ H Q I h => h pins s I⟩
theorem pB (X : Cx) (e : List Stmt) : PSs X e (tB X e) := ⟨fun pins s σ H Q I h => h pins s I⟩
theorem tE_of {X : Cx} {e : Expr} {t : TE} (h : PE X e t) {σ H Q} (q : t σ H Q) : tE X e σ H Q := fun pins s I => h.run pins s σ H Q I q
theorem tT_of {X : Cx} {e : Expr} {t : TT} (h : PT X e t) {σ H Q} (q : t σ H Q) : tT X e σ H Q := fun pins s I => h.run pins s σ H Q I q
theorem tW_of {X : Cx} {e : Expr} {t : TT} (h : PW X e t) {σ H Q} (q : t σ H Q) : tW X e σ H Q := fun wh pins s I => h.run wh pins s σ H Q I q
theorem tA_of {X : Cx} {e : List Expr} {t : TA} (h : PA X e t) {σ H Q} (q : t σ H Q) : tA X e σ H Q := fun pos pins s I => h.run pos pins s σ H Q I q
theorem tS_of {X : Cx} {e : Stmt} {t : TS} (h : PS X e t) {σ H D} (q : t D σ H) : tS X e D σ H := fun pins s I => h.run pins s σ H D I q
theorem tB_of {X : Cx} {e : List Stmt} {t : TS} (h : PSs X e t) {σ H D} (q : t D σ H) : tB X e D σ H := fun pins s I => h.run pins s σ H D I q

abbrev Gm := List (Option S)
abbrev Sto := List MO
/-! ### judgements: from a symbolic state an expression gives r and leaves the store M' -/
structure EX (c : Cs) (Γ : Gm) (M : Sto) (e : Expr) (r : S) (M' : Sto) : Prop where
  run : ∀ X H0 as0, OkE c X H0 as0 → ∀ as σ H Q, Den c.K H0 as0 Γ M as σ H → (∀ v as' H', Le as H as' H' → DenM c.K H0 as0 M' as' H' → SV c.K H' as' r v → Q v H') → tE X e σ H Q
structure ET (c : Cs) (Γ : Gm) (M : Sto) (e : Expr) (b : Bool) (M' : Sto) : Prop where
  run : ∀ X H0 as0, OkE c X H0 as0 → ∀ as σ H Q, Den c.K H0 as0 Γ M as σ H → (∀ as' H', Le as H as' H' → DenM c.K H0 as0 M' as' H' → Q b H') → tT X e σ H Q
structure EW (c : Cs) (Γ : Gm) (M : Sto) (e : Expr) (b : Bool) (M' : Sto) : Prop where
  run : ∀ X H0 as0, OkE c X H0 as0 → ∀ as σ H Q, Den c.K H0 as0 Γ M as σ H → (∀ as' H', Le as H as' H' → DenM c.K H0 as0 M' as' H' → Q b H') → tW X e σ H Q
structure EA (c : Cs) (Γ : Gm) (M : Sto) (es : List Expr) (rs : List S) (M' : Sto) : Prop where
  run : ∀ X H0 as0, OkE c X H0 as0 → ∀ as σ H Q, Den c.K H0 as0 Γ M as σ H → (∀ vs as' H', Le as H as' H' → DenM c.K H0 as0 M' as' H' → SVs c.K H' as' rs vs → Q vs H') → tA X es σ H Q
/-- an operation on two values -/
structure OS (c : Cs) (f : Value → Value → Sem Value) (x y : S) (M : Sto) (r : S) (M' : Sto) : Prop where
  run : ∀ X H0 as0, OkE c X H0 as0 → ∃ R : R2, OpR X f R ∧ ∀ as H u v (Q : VK), DenM c.K H0 as0 M as H → SV c.K H as x u → SV c.K H as y v → (∀ z as' H', Le as H as' H' → DenM c.K H0 as0 M' as' H' → SV c.K H' as' r z → Q z H') → R u v H Q
/-- a call of a value on arguments -/
structure CS (c : Cs) (f : Value) (xs : List S) (M : Sto) (r : S) (M' : Sto) : Prop where
  run : ∀ X H0 as0, OkE c X H0 as0 → ∃ R : List V → Hp → VK → Prop, CallR X f R ∧ ∀ as H vs (Q : VK), DenM c.K H0 as0 M as H → SVs c.K H as xs vs → (∀ z as' H', Le as H as' H' → DenM c.K H0 as0 M' as' H' → SV c.K H' as' r z → Q z H') → R vs H Q
/-- what is wanted behind statements -/
structure Nd where
  nx : Gm → Sto → Prop
  rt : S → Sto → Prop
  bk : Gm → Sto → Prop := fun _ _ => False
  ct : Gm → Sto → Prop := fun _ _ => False
/-- D wants no more than N gives -/
structure Fits (c : Cs) (H0 : Hp) (as0 : List Addr) (as : List Addr) (H : Hp) (N : Nd) (D : Ends) : Prop where
  nx : ∀ Γ M as' σ H', N.nx Γ M → Le as H as' H' → Den c.K H0 as0 Γ M as' σ H' → D.nx σ H'
  rt : ∀ r M as' v H', N.rt r M → Le as H as' H' → DenM c.K H0 as0 M as' H' → SV c.K H' as' r v → D.rt v H'
  bk : ∀ Γ M as' σ H', N.bk Γ M → Le as H as' H' → Den c.K H0 as0 Γ M as' σ H' → D.bk σ H'
  ct : ∀ Γ M as' σ H', N.ct Γ M → Le as H as' H' → Den c.K H0 as0 Γ M as' σ H' → D.ct σ H'
structure SX (c : Cs) (Γ : Gm) (M : Sto) (st : Stmt) (N : Nd) : Prop where
  run : ∀ X H0 as0, OkE c X H0 as0 → ∀ as σ H D, Den c.K H0 as0 Γ M as σ H → Fits c H0 as0 as H N D → tS X st D σ H
structure BX (c : Cs) (Γ : Gm) (M : Sto) (st : List Stmt) (N : Nd) : Prop where
  run : ∀ X H0 as0, OkE c X H0 as0 → ∀ as σ H D, Den c.K H0 as0 Γ M as σ H → Fits c H0 as0 as H N D → tB X st D σ H

section
variable {c : Cs} {Γ : Gm} {M M1 M2 M3 : Sto} {e a b : Expr} {r x y z : S} {pos : Pos}
theorem OkX.nd' {X : Cx} (o : OkX c X) : X.N.Nodup := by rw [o.N]; exact o.nd
theorem vis_ok {X : Cx} (o : OkX c X) {x : Str} (h : Vis c.sc x) : Vis X.env.scope x := by rw [o.sc]; exact h
theorem gl_ok {X : Cx} (o : OkX c X) {x : Str} (h : c.sc.names.lookup x = some .globalImplicit) : Gl X x := by
  unfold Gl Env.kindOf
  rw [o.sc]
  exact h
theorem kin_ok {X : Cx} (o : OkX c X) : X.K = c.K := o.K
theorem fn_ok {X : Cx} (o : OkX c X) {x : Str} (h : c.own x = true ∨ c.sc.names.lookup x = some .local) : X.fn x = true ∨ X.env.scope.names.lookup x = some .local := by
  rcases h with h | h
  · exact .inl (o.fn x h)
  · exact .inr (by rw [o.sc]; exact h)

/-! ### names, constants -/
theorem ex_var (i : Nat) {x : Str} {s : S} (hN : c.N[i]? = some x := by rfl) (hΓ : Γ[i]? = some (some s) := by rfl) (hv : Vis c.sc x := by first | exact Or.inl rfl | exact Or.inr (Or.inl rfl) | exact Or.inr (Or.inr rfl))
    (hd : (x == ("__debug__" : Str)) = false := by decide) (hcd : (x == ("__classdict__" : Str)) = false := by decide) : EX c Γ M (.Name x pos) s M := by
  constructor
  intro X H0 as0 o as σ H Q D k
  refine tE_of (pe_var (i := i) (by rw [o.N]; exact hN) (vis_ok o hv) hd hcd) ?_
  obtain ⟨v, h1, h2⟩ := D.loc i s hΓ
  exact ⟨v, h1, k v as H (Le.refl _ _) D.m h2⟩
theorem ex_const {e : Expr} {v : V} {s : S} (hp : ∀ X, OkX c X → PE X e (tC v)) (hs : ∀ H as, SV c.K H as s v) : EX c Γ M e s M := by
  constructor
  intro X H0 as0 o as σ H Q D k
  exact tE_of (hp X o) (k v as H (Le.refl _ _) D.m (hs H as))
theorem ex_int {i : Int} {j : Nat} : EX c Γ M (.Constant (.int i) j pos) (.d (.int i)) M := ex_const (fun _ _ => pe_int) fun _ _ => .d (.int i)
theorem ex_bool {i : Bool} {j : Nat} : EX c Γ M (.Constant (.bool i) j pos) (.d (.bool i)) M := ex_const (fun _ _ => pe_bl) fun _ _ => .d (.bl i)
theorem ex_none {j : Nat} : EX c Γ M (.Constant .none j pos) (.d .none) M := ex_const (fun _ _ => pe_non) fun _ _ => .d .non
theorem ex_str {i : Str} {j : Nat} : EX c Γ M (.Constant (.str i) j pos) (.d (.str i)) M := ex_const (fun _ _ => pe_str) fun _ _ => .d (.str i)
theorem ex_glob {x : Str} {v : V} {u : Value} {s : S} (hg : c.sc.names.lookup x = some .globalImplicit) (hm : c.mg x = some u) (r : RelV v u) (hs : ∀ H as, SV c.K H as s v) (hd : (x == ("__debug__" : Str)) = false := by decide) : EX c Γ M (.Name x pos) s M :=
  ex_const (fun X o => pe_glob (gl_ok o hg) (by rw [o.mg]; exact hm) r hd) hs
theorem ex_blt {x : Str} {v : V} {u : Value} (hg : c.sc.names.lookup x = some .globalImplicit) (hm : c.mg x = none) (hb : bootBuiltins x = some u) (r : RelV v u) (hn : x ≠ "__name__" := by decide) (hd : (x == ("__debug__" : Str)) = false := by decide) : EX c Γ M (.Name x pos) (.v v) M :=
  ex_const (fun X o => pe_bltn (gl_ok o hg) (by rw [o.mg]; exact hm) hb r hn hd) fun _ _ => .v v

/-! ### operations -/
theorem ex_bin {op : Operator} (ha : EX c Γ M a x M1) (hb : EX c Γ M1 b y M2) (ho : OS c (binaryOp op) x y M2 z M3) : EX c Γ M (.BinOp a op b pos) z M3 := by
  constructor
  intro X H0 as0 o as σ H Q D k
  obtain ⟨R, hR, hq⟩ := ho.run X H0 as0 o
  refine tE_of (pe_op hR (pE X a) (pE X b)) ?_
  refine ha.run X H0 as0 o as σ H _ D fun u as1 H1 l1 D1 s1 => ?_
  refine hb.run X H0 as0 o as1 σ H1 _ (D.next l1 D1) fun v as2 H2 l2 D2 s2 => ?_
  exact hq as2 H2 u v Q D2 (s1.le l2) s2 fun w as3 H3 l3 D3 s3 => k w as3 H3 ((l1.trans l2).trans l3) D3 s3
theorem ex_cmp {op : CmpOp} (ha : EX c Γ M a x M1) (hb : EX c Γ M1 b y M2) (ho : OS c (compareOp op) x y M2 z M3) (hm : behindInMarks op b = false := by first | exact nomark _ | with_unfolding_all rfl) : EX c Γ M (.Compare a [op] [b] pos) z M3 := by
  constructor
  intro X H0 as0 o as σ H Q D k
  obtain ⟨R, hR, hq⟩ := ho.run X H0 as0 o
  refine tE_of (pe_cmpR hR (pE X a) (pE X b) hm) ?_
  refine ha.run X H0 as0 o as σ H _ D fun u as1 H1 l1 D1 s1 => ?_
  refine hb.run X H0 as0 o as1 σ H1 _ (D.next l1 D1) fun v as2 H2 l2 D2 s2 => ?_
  exact hq as2 H2 u v Q D2 (s1.le l2) s2 fun w as3 H3 l3 D3 s3 => k w as3 H3 ((l1.trans l2).trans l3) D3 s3
theorem sv_bool {K : PySem.W.Frag} {H : Hp} {as : List Addr} {q : Bool} {v : V} (h : SV K H as (.d (.bool q)) v) : v = .bl q := by
  cases h with
  | d h => cases h; rfl
theorem sv_int {K : PySem.W.Frag} {H : Hp} {as : List Addr} {q : Int} {v : V} (h : SV K H as (.d (.int q)) v) : v = .int q := by
  cases h with
  | d h => cases h; rfl
theorem sv_str {K : PySem.W.Frag} {H : Hp} {as : List Addr} {q : Str} {v : V} (h : SV K H as (.d (.str q)) v) : v = .str q := by
  cases h with
  | d h => cases h; rfl
theorem sv_none {K : PySem.W.Frag} {H : Hp} {as : List Addr} {v : V} (h : SV K H as (.d .none) v) : v = .non := by
  cases h with
  | d h => cases h; rfl
theorem sv_v {K : PySem.W.Frag} {H : Hp} {as : List Addr} {u v : V} (h : SV K H as (.v u) v) : v = u := by
  cases h with
  | v => rfl
/-- a op1 b op2 c, whose third part leaves the store as it is -/
theorem ex_chain {op op' : CmpOp} {d : Expr} {q1 q2 : Bool} (ha : EX c Γ M a x M1) (hb : EX c Γ M1 b y M2) (ho : OS c (compareOp op) x y M2 (.d (.bool q1)) M2) (hd : q1 = true → EX c Γ M2 d z M2) (ho' : q1 = true → OS c (compareOp op') y z M2 (.d (.bool q2)) M2)
    (hm : lastMarks [op, op'] [b, d] = false := by with_unfolding_all rfl) : EX c Γ M (.Compare a [op, op'] [b, d] pos) (.d (.bool (q1 && q2))) M2 := by
  constructor
  intro X H0 as0 o as σ H Q D k
  obtain ⟨R, hR, hq⟩ := ho.run X H0 as0 o
  cases q1 with
  | false =>
    refine tE_of (pe_chain hR (r' := fun _ _ _ _ => False) (fun _ _ _ _ _ _ _ _ _ _ _ _ h => h.elim) (pE X a) (pE X b) (pE X d) hm) ?_
    refine ha.run X H0 as0 o as σ H _ D fun u as1 H1 l1 D1 s1 => ?_
    refine hb.run X H0 as0 o as1 σ H1 _ (D.next l1 D1) fun v as2 H2 l2 D2 s2 => ?_
    refine hq as2 H2 u v _ D2 (s1.le l2) s2 fun w as3 H3 l3 D3 s3 => ⟨false, sv_bool s3, ?_⟩
    rw [if_neg Bool.false_ne_true]
    exact k _ as3 H3 ((l1.trans l2).trans l3) D3 (.d (.bl _))
  | true =>
    obtain ⟨R', hR', hq'⟩ := (ho' rfl).run X H0 as0 o
    refine tE_of (pe_chain hR hR' (pE X a) (pE X b) (pE X d) hm) ?_
    refine ha.run X H0 as0 o as σ H _ D fun u as1 H1 l1 D1 s1 => ?_
    refine hb.run X H0 as0 o as1 σ H1 _ (D.next l1 D1) fun v as2 H2 l2 D2 s2 => ?_
    refine hq as2 H2 u v _ D2 (s1.le l2) s2 fun w as3 H3 l3 D3 s3 => ⟨true, sv_bool s3, ?_⟩
    rw [if_pos rfl]
    refine (hd rfl).run X H0 as0 o as3 σ H3 _ (D.next ((l1.trans l2).trans l3) D3) fun w2 as4 H4 l4 D4 s4 => ?_
    exact hq' as4 H4 v w2 Q D4 (s2.le (l3.trans l4)) s4 fun w as5 H5 l5 D5 s5 => k w as5 H5 ((((l1.trans l2).trans l3).trans l4).trans l5) D5 s5

/-! ### arguments, displays -/
theorem ea_nil : EA c Γ M [] [] M := by
  constructor
  intro X H0 as0 o as σ H Q D k
  exact tA_of pa_nil (k [] as H (Le.refl _ _) D.m .nil)
theorem ea_cons {es : List Expr} {rs : List S} (ha : EX c Γ M e x M1) (hr : EA c Γ M1 es rs M2) (hs : ∀ env, starEach (e :: es) env = (false, eval e env) :: starEach es env := by intro _; rfl) : EA c Γ M (e :: es) (x :: rs) M2 := by
  constructor
  intro X H0 as0 o as σ H Q D k
  refine tA_of (pa_cons (pE X e) (pA X es) (hs _)) ?_
  refine ha.run X H0 as0 o as σ H _ D fun u as1 H1 l1 D1 s1 => ?_
  exact hr.run X H0 as0 o as1 σ H1 _ (D.next l1 D1) fun us as2 H2 l2 D2 s2 => k _ as2 H2 (l1.trans l2) D2 (.cons (s1.le l2) s2)
/-- a tuple of such: data where all are data -/
def allD : List S → Option (List PyData)
  | [] => some []
  | .d x :: r => (allD r).map (x :: ·)
  | _ :: _ => none
def mkT (xs : List S) : S := match allD xs with
  | some ds => .d (.tuple ds)
  | none => .t xs
theorem allD_some {K : PySem.W.Frag} {H : Hp} {as : List Addr} : ∀ {xs : List S} {ds : List PyData} {vs : List V}, allD xs = some ds → SVs K H as xs vs → ImAll K H vs ds
  | [], ds, _, e, h => by
    cases h
    cases e
    exact .nil
  | .d x :: r, ds, _, e, h => by
    unfold allD at e
    obtain ⟨l, e1, rfl⟩ := Option.map_eq_some_iff.mp e
    cases h with
    | cons a b =>
      cases a with
      | d q => exact .cons q (allD_some e1 b)
  | .p _ :: _, _, _, e, _ => by cases e
  | .v _ :: _, _, _, e, _ => by cases e
  | .t _ :: _, _, _, e, _ => by cases e
theorem mkT_sv {K : PySem.W.Frag} {H : Hp} {as : List Addr} {xs : List S} {vs : List V} {p : Addr} (h : SVs K H as xs vs) (e : H p = some (.tup vs)) : SV K H as (mkT xs) (.ref p) := by
  unfold mkT
  cases q : allD xs with
  | none => exact .t e h
  | some ds => exact .d (.tup e (allD_some q h))
theorem ex_tup {es : List Expr} {rs : List S} {k0} (h : EA c Γ M es rs M1) (hl : rs.length ≤ 1000) : EX c Γ M (.Tuple es k0 pos) (mkT rs) M1 := by
  constructor
  intro X H0 as0 o as σ H Q D k
  refine tE_of (pe_tup (pA X es)) ?_
  refine h.run X H0 as0 o as σ H _ D fun us as1 H1 l1 D1 s1 => ⟨?_, fun p hp => ?_⟩
  · rw [← s1.length]
    exact Nat.le_trans hl (by decide)
  · have k1 : Same H1 (upd H1 p (.tup us)) := Same.new hp
    exact k _ as1 _ ⟨l1.pre, l1.tk.trans (Same.tk k1)⟩ (D1.grow k1) (mkT_sv (s1.le (.h (Same.tk k1))) upd_same)
theorem ex_list {es : List Expr} {rs : List S} (h : EA c Γ M es rs M1) (hl : rs.length ≤ 1000) : EX c Γ M (.List es pos) (.p M1.length) (M1 ++ [.lst rs]) := by
  constructor
  intro X H0 as0 o as σ H Q D k
  refine tE_of (pe_lst (pA X es)) ?_
  refine h.run X H0 as0 o as σ H _ D fun us as1 H1 l1 D1 s1 => ⟨?_, fun p hp => ?_⟩
  · rw [← s1.length]
    exact Nat.le_trans hl (by decide)
  · have k1 : Same H1 (upd H1 p (.lst us)) := Same.new hp
    have l2 : Le as1 H1 (as1 ++ [p]) (upd H1 p (.lst us)) := ⟨List.prefix_append _ _, Same.tk k1⟩
    refine k _ _ _ (l1.trans l2) (D1.push hp (fun _ z => by cases z) ⟨us, upd_same, s1.le l2⟩ (fun _ z => by cases z)) (.p ?_)
    rw [← D1.len, List.getElem?_append_right (Nat.le_refl _)]
    simp
end
end DL

namespace DL
open PySem PySem.Spec PyProof.Rows L2

/-! ### renumbering -/
mutual
inductive Ren (ρ : Nat → Option Nat) : S → S → Prop
  | d (x : PyData) : Ren ρ (.d x) (.d x)
  | v (u : V) : Ren ρ (.v u) (.v u)
  | p {k j : Nat} : ρ k = some j → Ren ρ (.p k) (.p j)
  | t {xs ys : List S} : Rens ρ xs ys → Ren ρ (.t xs) (.t ys)
inductive Rens (ρ : Nat → Option Nat) : List S → List S → Prop
  | nil : Rens ρ [] []
  | cons {x y : S} {xs ys : List S} : Ren ρ x y → Rens ρ xs ys → Rens ρ (x :: xs) (y :: ys)
end
inductive RenM (ρ : Nat → Option Nat) : MO → MO → Prop
  | lst {xs ys : List S} : Rens ρ xs ys → RenM ρ (.lst xs) (.lst ys)
  | rl {xs ys : List S} : Rens ρ xs ys → RenM ρ (.rl xs) (.rl ys)
  | dk {xs ys : List (Key × S)} : Paired (fun p q => p.1 = q.1 ∧ Ren ρ p.2 q.2) xs ys → RenM ρ (.dk xs) (.dk ys)
  | dt {xs ys : List (List Key × S)} : Paired (fun p q => p.1 = q.1 ∧ Ren ρ p.2 q.2) xs ys → RenM ρ (.dt xs) (.dt ys)
  | ins {C : Addr} {xs ys : List (Str × S)} : Paired (fun p q => p.1 = q.1 ∧ Ren ρ p.2 q.2) xs ys → RenM ρ (.ins C xs) (.ins C ys)
  | xo {C : Addr} {m : Str} {x y : S} : Ren ρ x y → RenM ρ (.xo C m x) (.xo C m y)
  | xd {xs ys : List (Str × S)} : Paired (fun p q => p.1 = q.1 ∧ Ren ρ p.2 q.2) xs ys → RenM ρ (.xd xs) (.xd ys)
  | oth (φ : Hp → Addr → Prop) : RenM ρ (.oth φ) (.oth φ)
theorem Rens.data (ρ : Nat → Option Nat) : ∀ ds : List PyData, Rens ρ (ds.map S.d) (ds.map S.d)
  | [] => .nil
  | d :: ds => .cons (.d d) (Rens.data ρ ds)
theorem Rens.app {ρ : Nat → Option Nat} : ∀ {xs ys zs ws : List S}, Rens ρ xs ys → Rens ρ zs ws → Rens ρ (xs ++ zs) (ys ++ ws)
  | _, _, _, _, .nil, b => b
  | _, _, _, _, .cons h a, b => .cons h (Rens.app a b)
def RnOk (ρ : Nat → Option Nat) (as as' : List Addr) : Prop := ∀ k j, ρ k = some j → ∀ a, as[k]? = some a → as'[j]? = some a
section
variable {K : PySem.W.Frag} {H : Hp} {as as' : List Addr} {ρ : Nat → Option Nat}
mutual
theorem SV.ren (h : RnOk ρ as as') : ∀ {x y : S} {v : V}, Ren ρ x y → SV K H as x v → SV K H as' y v
  | _, _, _, .d _, .d q => .d q
  | _, _, _, .v _, .v _ => .v _
  | _, _, _, .p e, .p q => .p (h _ _ e _ q)
  | _, _, _, .t e, .t g q => .t g (SVs.ren h e q)
theorem SVs.ren (h : RnOk ρ as as') : ∀ {x y : List S} {v : List V}, Rens ρ x y → SVs K H as x v → SVs K H as' y v
  | _, _, _, .nil, .nil => .nil
  | _, _, _, .cons e f, .cons q r => .cons (SV.ren h e q) (SVs.ren h f r)
end
theorem KSV.ren {κ : Type} (h : RnOk ρ as as') : ∀ {xs ys : List (κ × S)} {vs : List (κ × V)}, Paired (fun p q => p.1 = q.1 ∧ Ren ρ p.2 q.2) xs ys → KSV K H as xs vs → KSV K H as' ys vs
  | _, _, _, .nil, .nil => .nil
  | _, _, _, .cons e f, .cons q r => .cons ⟨e.1.symm.trans q.1, SV.ren h e.2 q.2⟩ (KSV.ren h f r)
theorem MOk.ren (h : RnOk ρ as as') {a : Addr} {m m' : MO} (r : RenM ρ m m') (q : MOk K H as a m) : MOk K H as' a m' := by
  cases r with
  | lst e => obtain ⟨vs, h1, h2⟩ := q; exact ⟨vs, h1, h2.ren h e⟩
  | rl e => obtain ⟨vs, h1, h2⟩ := q; exact ⟨vs, h1, h2.ren h e⟩
  | dk e => obtain ⟨vs, h1, h2⟩ := q; exact ⟨vs, h1, KSV.ren h e h2⟩
  | dt e => obtain ⟨vs, h1, h2⟩ := q; exact ⟨vs, h1, KSV.ren h e h2⟩
  | ins e => obtain ⟨dx, vs, h1, h2⟩ := q; exact ⟨dx, vs, h1, KSV.ren h e h2⟩
  | xo e => obtain ⟨d, t, h1, h2⟩ := q; exact ⟨d, t, h1.ren h e, h2⟩
  | xd e => obtain ⟨vs, h1, h2⟩ := q; exact ⟨vs, h1, KSV.ren h e h2⟩
  | oth φ => exact q
theorem RenM.oth_of {m : MO} {φ : Hp → Addr → Prop} (r : RenM ρ m (.oth φ)) : m = .oth φ := by
  cases r
  rfl
end

/-! ### keeping some of the objects: the first n, then those at js -/
def keepR (n : Nat) (js : List Nat) : Nat → Option Nat := fun k => if k < n then some k else (js.idxOf? k).map (n + ·)
def pick (as : List Addr) (n : Nat) (js : List Nat) : List Addr := as.take n ++ js.map fun j => as.getD j 0
/-- (r, M) told as (r', M'): the first n objects and those at js -/
structure Keep (n : Nat) (js : List Nat) (M M' : Sto) : Prop where
  len : M'.length = n + js.length
  nd : js.Nodup
  lo : ∀ j ∈ js, n ≤ j ∧ j < M.length
  hn : n ≤ M.length
  fst : ∀ k m, k < n → M[k]? = some m → ∃ m', M'[k]? = some m' ∧ RenM (keepR n js) m m'
  snd : ∀ (i j : Nat) m, js[i]? = some j → M[j]? = some m → ∃ m', M'[n + i]? = some m' ∧ RenM (keepR n js) m m'
theorem idxOf_nodup {js : List Nat} (nd : js.Nodup) {i j : Nat} (h : js[i]? = some j) : js.idxOf? j = some i := by
  induction js generalizing i with
  | nil => simp at h
  | cons x xs ih =>
    cases i with
    | zero =>
      simp at h
      subst h
      simp [List.idxOf?_cons]
    | succ i =>
      have h' : xs[i]? = some j := by simpa using h
      have hx : x ≠ j := fun z => by
        subst z
        exact (List.nodup_cons.mp nd).1 (List.mem_of_getElem? h')
      rw [List.idxOf?_cons]
      simp [hx, ih (List.nodup_cons.mp nd).2 h']
theorem idxOf_get {js : List Nat} {i j : Nat} (h : js.idxOf? j = some i) : js[i]? = some j := by
  induction js generalizing i with
  | nil => simp at h
  | cons x xs ih =>
    rw [List.idxOf?_cons] at h
    split at h
    · rename_i hx
      simp at hx
      cases h
      simp [hx]
    · cases e : xs.idxOf? j with
      | none => rw [e] at h; cases h
      | some i' =>
        rw [e] at h
        cases h
        simpa using ih e
section
variable {K : PySem.W.Frag} {H0 H : Hp} {as0 as : List Addr} {M M' : Sto} {n : Nat} {js : List Nat}
theorem pick_ok (hl : as.length = M.length) (k : Keep n js M M') : RnOk (keepR n js) as (pick as n js) := by
  intro i j e a ha
  unfold keepR at e
  unfold pick
  split at e
  · rename_i h
    cases e
    rw [List.getElem?_append_left (by rw [List.length_take]; have := (List.getElem?_eq_some_iff.mp ha).1; omega), List.getElem?_take, if_pos h]
    exact ha
  · cases q : js.idxOf? i with
    | none => rw [q] at e; cases e
    | some t =>
      rw [q] at e
      have e' : n + t = j := Option.some.inj e
      subst e'
      have hn := k.hn
      rw [List.getElem?_append_right (by rw [List.length_take]; omega), List.length_take, Nat.min_eq_left (by omega), Nat.add_sub_cancel_left, List.getElem?_map, idxOf_get q]
      simp [List.getD, ha]
theorem DenM.keep (D : DenM K H0 as0 M as H) (h0 : as0.length ≤ n) (k : Keep n js M M') : DenM K H0 as0 M' (pick as n js) H := by
  have hl := D.len
  have hn := k.hn
  have R := pick_ok hl k
  have hlt : (as.take n).length = n := by rw [List.length_take]; omega
  obtain ⟨l, e, hl0⟩ := D.new
  have tk : as.take n = as0 ++ l.take (n - as0.length) := by
    rw [e, List.take_append, List.take_of_length_le h0]
  have js_at : ∀ j ∈ js, as[j]? = some (as.getD j 0) ∧ as.getD j 0 ∈ l := fun j hj => by
    have q := k.lo j hj
    have hj' : j < as.length := by omega
    have e1 : as[j]? = some (as.getD j 0) := by simp [List.getD, List.getElem?_eq_getElem hj']
    refine ⟨e1, ?_⟩
    generalize as.getD j 0 = x at e1
    rw [e, List.getElem?_append_right (by omega)] at e1
    exact List.mem_of_getElem? e1
  have sub : ∀ a ∈ pick as n js, a ∈ as := fun a ha => by
    rcases List.mem_append.mp ha with z | z
    · exact List.mem_of_mem_take z
    · obtain ⟨j, hj, rfl⟩ := List.mem_map.mp z
      exact List.mem_of_getElem? (js_at j hj).1
  refine ⟨?_, by unfold pick; rw [List.length_append, hlt, List.length_map, k.len], ⟨l.take (n - as0.length) ++ js.map fun j => as.getD j 0, by unfold pick; rw [tk, List.append_assoc], fun a ha => ?_⟩, D.le, fun a o h1 h2 => ?_, fun i m a e1 e2 => ?_, fun a ha => D.there a (sub a ha), fun i φ e1 => ?_⟩
  · unfold pick
    rw [List.nodup_append]
    refine ⟨D.nd.sublist (List.take_sublist _ _), ?_, fun a ha b hb => ?_⟩
    · have nd := k.nd
      have lo := k.lo
      clear R sub k
      induction js with
      | nil => simp
      | cons j js ih =>
        rw [List.map_cons, List.nodup_cons]
        refine ⟨fun z => ?_, ih (fun i hi => js_at i (List.mem_cons_of_mem _ hi)) (List.nodup_cons.mp nd).2 fun i hi => lo i (List.mem_cons_of_mem _ hi)⟩
        obtain ⟨i, hi, ei⟩ := List.mem_map.mp z
        have q1 := (js_at j List.mem_cons_self).1
        have q2 := (js_at i (List.mem_cons_of_mem _ hi)).1
        rw [ei] at q2
        obtain ⟨h1, q1⟩ := List.getElem?_eq_some_iff.mp q1
        obtain ⟨h2, q2⟩ := List.getElem?_eq_some_iff.mp q2
        have := (List.getElem_inj D.nd).mp (q1.trans q2.symm)
        subst this
        exact (List.nodup_cons.mp nd).1 hi
    · rintro rfl
      obtain ⟨j, hj, ej⟩ := List.mem_map.mp hb
      have q1 := (js_at j hj).1
      rw [ej] at q1
      obtain ⟨i, hi, q2⟩ := List.mem_iff_getElem.mp ha
      have hi' : i < n := by rw [hlt] at hi; exact hi
      rw [List.getElem_take] at q2
      obtain ⟨h1, q1⟩ := List.getElem?_eq_some_iff.mp q1
      have := (List.getElem_inj D.nd).mp (q1.trans q2.symm)
      have := (k.lo j hj).1
      omega
  · rcases List.mem_append.mp ha with z | z
    · exact hl0 a (List.mem_of_mem_take z)
    · obtain ⟨j, hj, rfl⟩ := List.mem_map.mp z
      exact hl0 _ (js_at j hj).2
  · refine D.fr a o h1 fun z => ?_
    rw [e] at z
    rcases List.mem_append.mp z with z | z
    · refine h2 ?_
      unfold pick
      rw [tk, List.append_assoc]
      exact List.mem_append_left _ z
    · rw [hl0 a z] at h1
      cases h1
  · by_cases hi : i < n
    · have hiM : i < M.length := by omega
      obtain ⟨m', e3, r⟩ := k.fst i M[i] hi (List.getElem?_eq_getElem hiM)
      rw [e1] at e3
      cases e3
      unfold pick at e2
      rw [List.getElem?_append_left (by omega), List.getElem?_take, if_pos hi] at e2
      exact (D.mem i _ a (List.getElem?_eq_getElem hiM) e2).ren R r
    · have q := (List.getElem?_eq_some_iff.mp e1).1
      rw [k.len] at q
      have hj : i - n < js.length := by omega
      have e4 : js[i - n]? = some js[i - n] := List.getElem?_eq_getElem hj
      have hlo := k.lo js[i - n] (List.getElem_mem hj)
      obtain ⟨m', e3, r⟩ := k.snd (i - n) _ M[js[i - n]] e4 (List.getElem?_eq_getElem hlo.2)
      rw [show n + (i - n) = i by omega, e1] at e3
      cases e3
      unfold pick at e2
      rw [List.getElem?_append_right (by omega), hlt, List.getElem?_map, e4] at e2
      cases e2
      exact (D.mem _ _ _ (List.getElem?_eq_getElem hlo.2) (js_at _ (List.getElem_mem hj)).1).ren R r
  · by_cases hi : i < n
    · have hiM : i < M.length := by omega
      obtain ⟨m', e3, r⟩ := k.fst i M[i] hi (List.getElem?_eq_getElem hiM)
      rw [e1] at e3
      cases e3
      exact D.st i φ (by rw [List.getElem?_eq_getElem hiM, r.oth_of])
    · have q := (List.getElem?_eq_some_iff.mp e1).1
      rw [k.len] at q
      have hj : i - n < js.length := by omega
      have e4 : js[i - n]? = some js[i - n] := List.getElem?_eq_getElem hj
      have hlo := k.lo js[i - n] (List.getElem_mem hj)
      obtain ⟨m', e3, r⟩ := k.snd (i - n) _ M[js[i - n]] e4 (List.getElem?_eq_getElem hlo.2)
      rw [show n + (i - n) = i by omega, e1] at e3
      cases e3
      exact D.st _ φ (by rw [List.getElem?_eq_getElem hlo.2, r.oth_of])
end
/-- the state (Γ, M) may be told as (Γ', M'): n objects are the entry's at most -/
structure Wk (n : Nat) (js : List Nat) (Γ : Gm) (M : Sto) (Γ' : Gm) (M' : Sto) : Prop where
  k : Keep n js M M'
  len : Γ'.length = Γ.length
  g : ∀ (i : Nat) s', Γ'[i]? = some (some s') → ∃ s, Γ[i]? = some (some s) ∧ Ren (keepR n js) s s'
theorem Den.weak {K : PySem.W.Frag} {H0 H : Hp} {as0 as : List Addr} {σ : L2.St} {Γ Γ' : Gm} {M M' : Sto} {n : Nat} {js : List Nat} (D : Den K H0 as0 Γ M as σ H) (h0 : as0.length ≤ n) (w : Wk n js Γ M Γ' M') : Den K H0 as0 Γ' M' (pick as n js) σ H := by
  refine ⟨D.m.keep h0 w.k, D.len.trans w.len.symm, fun i s' e => ?_⟩
  obtain ⟨s, e1, r⟩ := w.g i s' e
  obtain ⟨v, h1, h2⟩ := D.loc i s e1
  exact ⟨v, h1, h2.ren (pick_ok D.m.len w.k) r⟩
end DL

namespace DL
open PySem PySem.Spec PyProof.Rows L2

section
variable {c : Cs} {Γ Γ' Γ1 : Gm} {M M' M1 M2 M3 : Sto} {e a b : Expr} {r x y z : S} {pos : Pos} {q q1 q2 : Bool} {N : Nd} {st : Stmt} {rest : List Stmt}

/-! ### tests -/
/-- an expression that gives a bool (a name, a call, a constant ..) -/
theorem et_val (h : EX c Γ M e (.d (.bool q)) M1) (he : ∀ env whole, isTrue e env whole = (do let v ← whole; standAt e.pos; holding [v] (truthy v)) := by intro _ _; rfl) : ET c Γ M e q M1 := by
  constructor
  intro X H0 as0 o as σ H Q D k
  refine tT_of (pt_val (pE X e) (he _)) ?_
  exact h.run X H0 as0 o as σ H _ D fun v as1 H1 l1 D1 s1 => ⟨q, sv_bool s1, k as1 H1 l1 D1⟩
theorem et_cmp {op : CmpOp} (ha : EX c Γ M a x M1) (hb : EX c Γ M1 b y M2) (ho : OS c (compareOp op) x y M2 (.d (.bool q)) M3) (hm : behindInMarks op b = false := by first | exact nomark _ | with_unfolding_all rfl) : ET c Γ M (.Compare a [op] [b] pos) q M3 := by
  constructor
  intro X H0 as0 o as σ H Q D k
  obtain ⟨R, hR, hq⟩ := ho.run X H0 as0 o
  refine tT_of (pt_cmpR hR (pE X a) (pE X b) hm) ?_
  refine ha.run X H0 as0 o as σ H _ D fun u as1 H1 l1 D1 s1 => ?_
  refine hb.run X H0 as0 o as1 σ H1 _ (D.next l1 D1) fun v as2 H2 l2 D2 s2 => ?_
  exact hq as2 H2 u v _ D2 (s1.le l2) s2 fun w as3 H3 l3 D3 s3 => ⟨q, sv_bool s3, k as3 H3 ((l1.trans l2).trans l3) D3⟩
theorem et_chain {op op' : CmpOp} {d : Expr} (ha : EX c Γ M a x M1) (hb : EX c Γ M1 b y M2) (ho : OS c (compareOp op) x y M2 (.d (.bool q1)) M2) (hd : q1 = true → EX c Γ M2 d z M2) (ho' : q1 = true → OS c (compareOp op') y z M2 (.d (.bool q2)) M2)
    (hm : lastMarks [op, op'] [b, d] = false := by with_unfolding_all rfl) : ET c Γ M (.Compare a [op, op'] [b, d] pos) (q1 && q2) M2 := by
  constructor
  intro X H0 as0 o as σ H Q D k
  obtain ⟨R, hR, hq⟩ := ho.run X H0 as0 o
  cases q1 with
  | false =>
    refine tT_of (pt_chain hR (r' := fun _ _ _ _ => False) (fun _ _ _ _ _ _ _ _ _ _ _ _ h => h.elim) (pE X a) (pE X b) (pE X d) hm) ?_
    refine ha.run X H0 as0 o as σ H _ D fun u as1 H1 l1 D1 s1 => ?_
    refine hb.run X H0 as0 o as1 σ H1 _ (D.next l1 D1) fun v as2 H2 l2 D2 s2 => ?_
    refine hq as2 H2 u v _ D2 (s1.le l2) s2 fun w as3 H3 l3 D3 s3 => ⟨false, sv_bool s3, ?_⟩
    rw [if_neg Bool.false_ne_true]
    exact ⟨false, rfl, k as3 H3 ((l1.trans l2).trans l3) D3⟩
  | true =>
    obtain ⟨R', hR', hq'⟩ := (ho' rfl).run X H0 as0 o
    refine tT_of (pt_chain hR hR' (pE X a) (pE X b) (pE X d) hm) ?_
    refine ha.run X H0 as0 o as σ H _ D fun u as1 H1 l1 D1 s1 => ?_
    refine hb.run X H0 as0 o as1 σ H1 _ (D.next l1 D1) fun v as2 H2 l2 D2 s2 => ?_
    refine hq as2 H2 u v _ D2 (s1.le l2) s2 fun w as3 H3 l3 D3 s3 => ⟨true, sv_bool s3, ?_⟩
    rw [if_pos rfl]
    refine (hd rfl).run X H0 as0 o as3 σ H3 _ (D.next ((l1.trans l2).trans l3) D3) fun w2 as4 H4 l4 D4 s4 => ?_
    exact hq' as4 H4 v w2 _ D4 (s2.le (l3.trans l4)) s4 fun w as5 H5 l5 D5 s5 => ⟨q2, sv_bool s5, k as5 H5 ((((l1.trans l2).trans l3).trans l4).trans l5) D5⟩
theorem et_not (h : ET c Γ M e q M1) : ET c Γ M (.UnaryOp .Not e pos) (!q) M1 := by
  constructor
  intro X H0 as0 o as σ H Q D k
  refine tT_of (pt_not (pT X e)) ?_
  exact h.run X H0 as0 o as σ H _ D k
theorem et_w (h : EW c Γ M e q M1) : ET c Γ M e q M1 := by
  constructor
  intro X H0 as0 o as σ H Q D k
  exact tT_of (pW X e).pt (h.run X H0 as0 o as σ H Q D k)
theorem ew_and1 (h : ET c Γ M a q M1) : EW c Γ M (.BoolOp .And [a] pos) q M1 := by
  constructor
  intro X H0 as0 o as σ H Q D k
  exact tW_of (pw_and1 (pT X a)) (h.run X H0 as0 o as σ H Q D k)
theorem ew_or1 (h : ET c Γ M a q M1) : EW c Γ M (.BoolOp .Or [a] pos) q M1 := by
  constructor
  intro X H0 as0 o as σ H Q D k
  exact tW_of (pw_or1 (pT X a)) (h.run X H0 as0 o as σ H Q D k)
/-- the parts leave the store as the first one does -/
theorem ew_and {es : List Expr} (ha : ET c Γ M a q1 M1) (hb : q1 = true → EW c Γ M1 (.BoolOp .And (b :: es) pos) q2 M1) : EW c Γ M (.BoolOp .And (a :: b :: es) pos) (q1 && q2) M1 := by
  constructor
  intro X H0 as0 o as σ H Q D k
  refine tW_of (pw_and (pT X a) (pW X _)) ?_
  refine ha.run X H0 as0 o as σ H _ D fun as1 H1 l1 D1 => ?_
  cases q1 with
  | false =>
    rw [if_neg Bool.false_ne_true]
    exact k as1 H1 l1 D1
  | true =>
    rw [if_pos rfl]
    exact (hb rfl).run X H0 as0 o as1 σ H1 Q (D.next l1 D1) fun as2 H2 l2 D2 => k as2 H2 (l1.trans l2) D2
theorem ew_or {es : List Expr} (ha : ET c Γ M a q1 M1) (hb : q1 = false → EW c Γ M1 (.BoolOp .Or (b :: es) pos) q2 M1) : EW c Γ M (.BoolOp .Or (a :: b :: es) pos) (q1 || q2) M1 := by
  constructor
  intro X H0 as0 o as σ H Q D k
  refine tW_of (pw_or (pT X a) (pW X _)) ?_
  refine ha.run X H0 as0 o as σ H _ D fun as1 H1 l1 D1 => ?_
  cases q1 with
  | true =>
    rw [if_pos rfl]
    exact k as1 H1 l1 D1
  | false =>
    rw [if_neg Bool.false_ne_true]
    exact (hb rfl).run X H0 as0 o as1 σ H1 Q (D.next l1 D1) fun as2 H2 l2 D2 => k as2 H2 (l1.trans l2) D2
/-! ### and, or, not, if .. else as values -/
theorem ex_not (h : EX c Γ M e (.d (.bool q)) M1) : EX c Γ M (.UnaryOp .Not e pos) (.d (.bool (!q))) M1 := by
  constructor
  intro X H0 as0 o as σ H Q D k
  refine tE_of (pe_not (pE X e)) ?_
  exact h.run X H0 as0 o as σ H _ D fun v as1 H1 l1 D1 s1 => ⟨q, sv_bool s1, k _ as1 H1 l1 D1 (.d (.bl _))⟩
theorem ex_one {op} (h : EX c Γ M e r M1) : EX c Γ M (.BoolOp op [e] pos) r M1 := by
  constructor
  intro X H0 as0 o as σ H Q D k
  exact tE_of (pe_one (pE X e)) (h.run X H0 as0 o as σ H Q D k)
theorem ex_and {es : List Expr} (ha : EX c Γ M a (.d (.bool q1)) M1) (hb : q1 = true → EX c Γ M1 (.BoolOp .And (b :: es) pos) (.d (.bool q2)) M1) : EX c Γ M (.BoolOp .And (a :: b :: es) pos) (.d (.bool (q1 && q2))) M1 := by
  constructor
  intro X H0 as0 o as σ H Q D k
  refine tE_of (pe_and (pE X a) (pE X _)) ?_
  refine ha.run X H0 as0 o as σ H _ D fun v as1 H1 l1 D1 s1 => ⟨q1, sv_bool s1, ?_⟩
  cases q1 with
  | false =>
    rw [if_neg Bool.false_ne_true]
    exact k _ as1 H1 l1 D1 (.d (.bl _))
  | true =>
    rw [if_pos rfl]
    exact (hb rfl).run X H0 as0 o as1 σ H1 Q (D.next l1 D1) fun v as2 H2 l2 D2 => k v as2 H2 (l1.trans l2) D2
theorem ex_or {es : List Expr} (ha : EX c Γ M a (.d (.bool q1)) M1) (hb : q1 = false → EX c Γ M1 (.BoolOp .Or (b :: es) pos) (.d (.bool q2)) M1) : EX c Γ M (.BoolOp .Or (a :: b :: es) pos) (.d (.bool (q1 || q2))) M1 := by
  constructor
  intro X H0 as0 o as σ H Q D k
  refine tE_of (pe_or (pE X a) (pE X _)) ?_
  refine ha.run X H0 as0 o as σ H _ D fun v as1 H1 l1 D1 s1 => ⟨q1, sv_bool s1, ?_⟩
  cases q1 with
  | true =>
    rw [if_pos rfl]
    exact k _ as1 H1 l1 D1 (.d (.bl _))
  | false =>
    rw [if_neg Bool.false_ne_true]
    exact (hb rfl).run X H0 as0 o as1 σ H1 Q (D.next l1 D1) fun v as2 H2 l2 D2 => k v as2 H2 (l1.trans l2) D2
theorem ex_if {t : Expr} (ht : ET c Γ M t q M1) (ha : q = true → EX c Γ M1 a r M2) (hb : q = false → EX c Γ M1 b r M2) : EX c Γ M (.IfExp t a b pos) r M2 := by
  constructor
  intro X H0 as0 o as σ H Q D k
  refine tE_of (pe_ifExp (pT X t) (pE X a) (pE X b)) ?_
  refine ht.run X H0 as0 o as σ H _ D fun as1 H1 l1 D1 => ?_
  cases q with
  | true =>
    rw [if_pos rfl]
    exact (ha rfl).run X H0 as0 o as1 σ H1 Q (D.next l1 D1) fun v as2 H2 l2 D2 => k v as2 H2 (l1.trans l2) D2
  | false =>
    rw [if_neg Bool.false_ne_true]
    exact (hb rfl).run X H0 as0 o as1 σ H1 Q (D.next l1 D1) fun v as2 H2 l2 D2 => k v as2 H2 (l1.trans l2) D2

/-! ### statements -/
theorem Fits.le {H0 : Hp} {as0 as as' : List Addr} {H H' : Hp} {D : Ends} (f : Fits c H0 as0 as H N D) (k : Le as H as' H') : Fits c H0 as0 as' H' N D :=
  ⟨fun Γ M as2 σ H2 h l d => f.nx Γ M as2 σ H2 h (k.trans l) d, fun r M as2 v H2 h l d s => f.rt r M as2 v H2 h (k.trans l) d s, fun Γ M as2 σ H2 h l d => f.bk Γ M as2 σ H2 h (k.trans l) d, fun Γ M as2 σ H2 h l d => f.ct Γ M as2 σ H2 h (k.trans l) d⟩
theorem bx_nil (h : N.nx Γ M) : BX c Γ M [] N := by
  constructor
  intro X H0 as0 o as σ H D d f
  exact tB_of pss_nil (f.nx Γ M as σ H h (Le.refl _ _) d)
theorem bx_cons (h : SX c Γ M st { N with nx := fun Γ1 M1 => BX c Γ1 M1 rest N }) : BX c Γ M (st :: rest) N := by
  constructor
  intro X H0 as0 o as σ H D d f
  refine tB_of (pss_cons (pS X st) (pB X rest)) ?_
  refine h.run X H0 as0 o as σ H _ d ⟨fun Γ1 M1 as1 σ1 H1 h1 l1 d1 => ?_, f.rt, f.bk, f.ct⟩
  exact h1.run X H0 as0 o as1 σ1 H1 D d1 (f.le l1)
theorem bx_one (h : SX c Γ M st N) : BX c Γ M [st] N := by
  constructor
  intro X H0 as0 o as σ H D d f
  exact tB_of (pss_one (pS X st)) (h.run X H0 as0 o as σ H D d f)
theorem bx_wk {ss : List Stmt} {n : Nat} {js : List Nat} (hn : False) : BX c Γ M ss N := hn.elim
theorem sx_set (i : Nat) {v : Str} {pos' : Pos} (he : EX c Γ M e r M1) (hq : N.nx (Γ.set i (some r)) M1) (hi : c.N[i]? = some v := by rfl) (hx : Loc c.sc v := by first | exact Or.inl rfl | exact Or.inr rfl) (hf : c.own v = true ∨ c.sc.names.lookup v = some .local := by first | exact Or.inl rfl | exact Or.inr rfl)
    (hs : ∀ env, env.scope = c.sc → swapsWith e (some (.Name v pos')) pos.line env = pure false := by intro _ _; rfl) : SX c Γ M (.Assign [.Name v pos'] e pos) N := by
  constructor
  intro X H0 as0 o as σ H D d f
  refine tS_of (ps_set o.nd' (i := i) (by rw [o.N]; exact hi) (by rw [o.sc]; exact hx) (pE X e) (hs _ o.sc) (fn_ok o hf)) ?_
  exact he.run X H0 as0 o as σ H _ d fun v as1 H1 l1 D1 s1 => f.nx _ _ as1 _ H1 hq l1 ((d.next l1 D1).set s1)
theorem sx_expr (he : EX c Γ M e r M1) (hq : N.nx Γ M1) (hs : ∀ env, swapsWith e none pos.line env = pure false := by intro _; rfl) : SX c Γ M (.Expr e pos) N := by
  constructor
  intro X H0 as0 o as σ H D d f
  refine tS_of (ps_expr (pE X e) (hs _)) ?_
  exact he.run X H0 as0 o as σ H _ d fun v as1 H1 l1 D1 s1 => f.nx _ _ as1 _ H1 hq l1 (d.next l1 D1)
theorem sx_ret (he : EX c Γ M e r M1) (hq : N.rt r M1) : SX c Γ M (.Return (some e) pos) N := by
  constructor
  intro X H0 as0 o as σ H D d f
  refine tS_of (ps_ret (pE X e)) ?_
  exact he.run X H0 as0 o as σ H _ d fun v as1 H1 l1 D1 s1 => f.rt _ _ as1 _ H1 hq l1 D1 s1
theorem sx_retN (hq : N.rt (.d .none) M) : SX c Γ M (.Return none pos) N := by
  constructor
  intro X H0 as0 o as σ H D d f
  exact tS_of ps_retN (f.rt _ _ as _ H hq (Le.refl _ _) d.m (.d .non))
theorem sx_if {t : Expr} {s1 s2 : List Stmt} (ht : ET c Γ M t q M1) (h1 : q = true → BX c Γ M1 s1 N) (h2 : q = false → BX c Γ M1 s2 N) : SX c Γ M (.If t s1 s2 pos) N := by
  constructor
  intro X H0 as0 o as σ H D d f
  refine tS_of (ps_if (pT X t) (pB X s1) (pB X s2)) ?_
  refine ht.run X H0 as0 o as σ H _ d fun as1 H1 l1 D1 => ?_
  cases q with
  | true =>
    rw [if_pos rfl]
    exact (h1 rfl).run X H0 as0 o as1 σ H1 D (d.next l1 D1) (f.le l1)
  | false =>
    rw [if_neg Bool.false_ne_true]
    exact (h2 rfl).run X H0 as0 o as1 σ H1 D (d.next l1 D1) (f.le l1)
theorem sx_pass (h : N.nx Γ M) : SX c Γ M (.Pass pos) N := by
  constructor
  intro X H0 as0 o as σ H D d f
  exact tS_of ps_pass (f.nx Γ M as σ H h (Le.refl _ _) d)
theorem sx_break (h : N.bk Γ M) : SX c Γ M (.Break pos) N := by
  constructor
  intro X H0 as0 o as σ H D d f
  exact tS_of ps_break (f.bk Γ M as σ H h (Le.refl _ _) d)
theorem sx_continue (h : N.ct Γ M) : SX c Γ M (.Continue pos) N := by
  constructor
  intro X H0 as0 o as σ H D d f
  exact tS_of ps_continue (f.ct Γ M as σ H h (Le.refl _ _) d)
end

/-! ### targets -/
def tG (X : Cx) (tg : Expr) : TG := fun v σ H Q => ∀ pins s u, Inv X pins σ H s → RelV v u → wpAny (model X.prog X.w) X.A (assign tg X.env u) (fun _ s' => ∃ σ' H', Inv X pins σ' H' s' ∧ Q σ' H') X.xe s
theorem pG (X : Cx) (tg : Expr) : PG X tg (tG X tg) := ⟨fun pins s σ H v u Q I r h => h pins s u I r⟩
theorem tG_of {X : Cx} {e : Expr} {t : TG} (h : PG X e t) {v σ H Q} (q : t v σ H Q) : tG X e v σ H Q := fun pins s u I r => h.run pins s σ H v u Q I r q
def tGs (X : Cx) (tgs : List Expr) : TGs := fun vs σ H Q => ∀ pins s us, Inv X pins σ H s → Vals vs us → wpAny (model X.prog X.w) X.A (assignInOrder ((assignEach tgs X.env).map (·.2)) us) (fun _ s' => ∃ σ' H', Inv X pins σ' H' s' ∧ Q σ' H') X.xe s
theorem pGs (X : Cx) (tg : List Expr) : PGs X tg (tGs X tg) := ⟨fun pins s σ H v u Q I r h => h pins s u I r⟩
theorem tGs_of {X : Cx} {e : List Expr} {t : TGs} (h : PGs X e t) {v σ H Q} (q : t v σ H Q) : tGs X e v σ H Q := fun pins s u I r => h.run pins s σ H v u Q I r q
/-- a target takes s -/
structure GX (c : Cs) (Γ : Gm) (M : Sto) (tg : Expr) (s : S) (Γ' : Gm) (M' : Sto) : Prop where
  run : ∀ X H0 as0, OkE c X H0 as0 → ∀ as σ H v Q, Den c.K H0 as0 Γ M as σ H → SV c.K H as s v → (∀ as' σ' H', Le as H as' H' → Den c.K H0 as0 Γ' M' as' σ' H' → Q σ' H') → tG X tg v σ H Q
structure GXs (c : Cs) (Γ : Gm) (M : Sto) (tg : List Expr) (s : List S) (Γ' : Gm) (M' : Sto) : Prop where
  run : ∀ X H0 as0, OkE c X H0 as0 → ∀ as σ H v Q, Den c.K H0 as0 Γ M as σ H → SVs c.K H as s v → (∀ as' σ' H', Le as H as' H' → Den c.K H0 as0 Γ' M' as' σ' H' → Q σ' H') → tGs X tg v σ H Q
section
variable {c : Cs} {Γ Γ' Γ1 Γ2 : Gm} {M M' M1 M2 M3 : Sto} {e a b tg : Expr} {r x y z s : S} {pos : Pos} {N : Nd}
theorem gx_name (i : Nat) {v : Str} (hi : c.N[i]? = some v := by rfl) (hl : Loc c.sc v := by first | exact Or.inl rfl | exact Or.inr rfl) (hf : c.own v = true ∨ c.sc.names.lookup v = some .local := by first | exact Or.inl rfl | exact Or.inr rfl) : GX c Γ M (.Name v pos) s (Γ.set i (some s)) M := by
  constructor
  intro X H0 as0 o as σ H v Q D r k
  refine tG_of (pg_name (i := i) o.nd' (by rw [o.N]; exact hi) (by rw [o.sc]; exact hl) (fn_ok o hf)) ?_
  exact k as _ H (Le.refl _ _) (D.set r)
theorem gxs_nil : GXs c Γ M [] [] Γ M := by
  constructor
  intro X H0 as0 o as σ H v Q D r k
  cases r
  exact tGs_of pgs_nil ⟨rfl, k as σ H (Le.refl _ _) D⟩
theorem gxs_cons {tgs : List Expr} {ss : List S} (h1 : GX c Γ M tg s Γ1 M1) (h2 : GXs c Γ1 M1 tgs ss Γ2 M2) (hs : ∀ env, (assignEach (tg :: tgs) env).map (·.2) = assign tg env :: (assignEach tgs env).map (·.2) := by intro _; rfl) : GXs c Γ M (tg :: tgs) (s :: ss) Γ2 M2 := by
  constructor
  intro X H0 as0 o as σ H v Q D r k
  cases r with
  | cons a b =>
    refine tGs_of (pgs_cons (pG X tg) (pGs X tgs) (hs _)) ⟨_, _, rfl, ?_⟩
    refine h1.run X H0 as0 o as σ H _ _ D a fun as1 σ1 H1 l1 D1 => ?_
    exact h2.run X H0 as0 o as1 σ1 H1 _ _ D1 (b.le l1) fun as2 σ2 H2 l2 D2 => k as2 σ2 H2 (l1.trans l2) D2
/-- the items of a tuple -/
def Items : S → List S → Prop
  | .d (.tuple ds), ss => ss = ds.map S.d
  | .t xs, ss => ss = xs
  | _, _ => False
theorem Items.sv {K : PySem.W.Frag} {H : Hp} {as : List Addr} {s : S} {ss : List S} {v : V} (h : Items s ss) (r : SV K H as s v) : ∃ a vs, v = .ref a ∧ H a = some (.tup vs) ∧ SVs K H as ss vs := by
  cases r with
  | d q =>
    cases q with
    | tup e f =>
      have h' : ss = _ := h
      subst h'
      exact ⟨_, _, rfl, e, SVs.ofData f⟩
    | _ => exact h.elim
  | t e f =>
    have h' : ss = _ := h
    subst h'
    exact ⟨_, _, rfl, e, f⟩
  | _ => exact h.elim
theorem gx_tup {es : List Expr} {k0 : Nat} {ss : List S} (hi : Items s ss) (h : GXs c Γ M es ss Γ1 M1) (hn : ∀ env, (assignEach es env).length = ss.length := by intro _; rfl) (hst : ∀ env, (assignEach es env).findIdx? (·.1) = none := by intro _; rfl) : GX c Γ M (.Tuple es k0 pos) s Γ1 M1 := by
  constructor
  intro X H0 as0 o as σ H v Q D r k
  obtain ⟨a, vs, rfl, e, f⟩ := hi.sv r
  refine tG_of (pg_tup o.calm (pGs X es) (hn _) (hst _)) ⟨a, vs, rfl, SqT.of e, f.length.symm, ?_⟩
  exact h.run X H0 as0 o as σ H _ _ D f k
/-- target = e -/
theorem sx_asg (he : EX c Γ M e r M1) (hg : GX c Γ M1 tg r Γ2 M2) (hq : N.nx Γ2 M2) (hs : ∀ env, env.scope = c.sc → swapsWithSole [tg] e pos.line env = pure false := by intro _ _; rfl)
    (hw : ∀ env, env.scope = c.sc → swappedStores [tg] e env = pure none := by intro _ _; rfl) (h1 : ∀ env, (assignEach [tg] env).map (·.2) = [assign tg env] := by intro _; rfl) : SX c Γ M (.Assign [tg] e pos) N := by
  constructor
  intro X H0 as0 o as σ H D d f
  refine tS_of (ps_asg (pE X e) (pG X tg) (hs _ o.sc) (hw _ o.sc) (h1 _)) ?_
  refine he.run X H0 as0 o as σ H _ d fun v as1 H1 l1 D1 s1 => ?_
  exact hg.run X H0 as0 o as1 σ H1 v _ (d.next l1 D1) s1 fun as2 σ2 H2 l2 D2 => f.nx _ _ as2 σ2 H2 hq (l1.trans l2) D2
/-- a, b = x, y -/
theorem sx_par (i j : Nat) {v u : Str} {px py pt pt2 : Pos} {kt k2 : Nat} (ha : EA c Γ M [a, b] [x, y] M1) (hq : N.nx ((Γ.set i (some x)).set j (some y)) M1) (hi : c.N[i]? = some v := by rfl) (hj : c.N[j]? = some u := by rfl) (hij : i ≠ j := by decide)
    (hv : c.sc.names.lookup v = some .local := by rfl) (hu : c.sc.names.lookup u = some .local := by rfl)
    (hw : ∀ env, env.scope = c.sc → swappedStores [.Tuple [.Name v px, .Name u py] kt pt] (.Tuple [a, b] k2 pt2) env = pure (some [v, u]))
    (hs : ∀ env, swapsWithSole [.Tuple [.Name v px, .Name u py] kt pt] (.Tuple [a, b] k2 pt2) pos.line env = pure false := by intro _; rfl) : SX c Γ M (.Assign [.Tuple [.Name v px, .Name u py] kt pt] (.Tuple [a, b] k2 pt2) pos) N := by
  constructor
  intro X H0 as0 o as σ H D d f
  refine tS_of (ps_par (i := i) (j := j) o.calm o.nd' (by rw [o.N]; exact hi) (by rw [o.N]; exact hj) hij (by rw [o.sc]; exact hv) (by rw [o.sc]; exact hu) (pA X _) (hw _ o.sc) (hs _)) ?_
  refine ha.run X H0 as0 o as σ H _ d fun vs as1 H1 l1 D1 s1 => ?_
  cases s1 with
  | cons p q =>
    cases q with
    | cons p' q' =>
      cases q'
      exact ⟨_, _, rfl, f.nx _ _ as1 _ H1 hq l1 (((d.next l1 D1).set p).set p')⟩
end
end DL

namespace DL
open PySem PySem.Spec PyProof.Rows L2

/-! ### loops -/
def tI (X : Cx) (tg iter : Expr) : TI := fun σ H R => ∀ pins s, Inv X pins σ H s → wpAny (model X.prog X.w) X.A (eval iter X.env) (fun v s1 => wpAny (model X.prog X.w) X.A (pyIter v) (PIE X pins σ tg R) X.xe s1) X.xe s
theorem pI (X : Cx) (tg iter : Expr) : PI X tg iter (tI X tg iter) := ⟨fun pins s σ H R I h => h pins s I⟩
theorem tI_of {X : Cx} {tg iter : Expr} {t : TI} (h : PI X tg iter t) {σ H R} (q : t σ H R) : tI X tg iter σ H R := fun pins s I => h.run pins s σ H R I q
/-- n items: the i-th is it i, while G holds of the store -/
structure WalkD (K : PySem.W.Frag) (H0 : Hp) (as0 : List Addr) (J : It) (n : Nat) (as1 : List Addr) (H1 : Hp) (G : Sto → Prop) (it : Nat → S) : Prop where
  go : ∀ i as H M, i < n → Le as1 H1 as H → DenM K H0 as0 M as H → G M → J.go i H
  yld : ∀ i as H M x H', i < n → Le as1 H1 as H → DenM K H0 as0 M as H → G M → J.yld i H x H' → Same H H' ∧ SV K H' as (it i) x
  stop : ∀ as H M, Le as1 H1 as H → DenM K H0 as0 M as H → G M → J.stop n H
structure IX (c : Cs) (Γ : Gm) (M : Sto) (tg iter : Expr) (n : Nat) (G : Sto → Prop) (it : Nat → S) (M1 : Sto) : Prop where
  run : ∀ X H0 as0, OkE c X H0 as0 → ∀ as σ H R, Den c.K H0 as0 Γ M as σ H → (∀ J as1 H1, Le as H as1 H1 → DenM c.K H0 as0 M1 as1 H1 → WalkD c.K H0 as0 J n as1 H1 G it → R J H1) → tI X tg iter σ H R
/-- forgetting slots -/
def Fg (Γ Γ' : Gm) : Prop := Γ'.length = Γ.length ∧ ∀ (i : Nat) s, Γ'[i]? = some (some s) → Γ[i]? = some (some s)
theorem Fg.refl (Γ : Gm) : Fg Γ Γ := ⟨rfl, fun _ _ h => h⟩
theorem Den.fg {K : PySem.W.Frag} {H0 H : Hp} {as0 as : List Addr} {σ : L2.St} {Γ Γ' : Gm} {M : Sto} (D : Den K H0 as0 Γ M as σ H) (f : Fg Γ Γ') : Den K H0 as0 Γ' M as σ H :=
  ⟨D.m, D.len.trans f.1.symm, fun i s e => D.loc i s (f.2 i s e)⟩
theorem DenM.le0 {K : PySem.W.Frag} {H0 H : Hp} {as0 as : List Addr} {M : Sto} (D : DenM K H0 as0 M as H) : as0.length ≤ M.length := by
  obtain ⟨l, e, _⟩ := D.new
  rw [← D.len, e, List.length_append]
  omega
theorem pick_nil {as as' : List Addr} {n : Nat} (h : as <+: as') (hn : as.length = n) : pick as' n [] = as := by
  obtain ⟨t, rfl⟩ := h
  unfold pick
  subst hn
  simp
/-- behind a turn: the new objects are forgotten -/
def Nxt (n : Nat) (P : Gm → Sto → Prop) : Gm → Sto → Prop := fun Γ M => ∃ Γ' M', Wk n [] Γ M Γ' M' ∧ P Γ' M'
section
variable {c : Cs} {Γ Γ' Γ1 Γ2 : Gm} {M M' M1 M2 M3 : Sto} {e a b tg iter : Expr} {r x y z s : S} {pos : Pos} {N : Nd} {body : List Stmt}
theorem sx_for {n : Nat} {G : Sto → Prop} {it : Nat → S} (hi : IX c Γ M tg iter n G it M1) (I : Nat → Gm → Sto → Prop) (h0 : ∃ Γ', Fg Γ Γ' ∧ I 0 Γ' M1) (hG : ∀ k Γ M, k ≤ n → I k Γ M → G M)
    (hs : ∀ k Γ M, k < n → I k Γ M → ∃ Γ1 M1, GX c Γ M tg (it k) Γ1 M1 ∧ BX c Γ1 M1 body { N with nx := Nxt M.length (I (k + 1)), ct := Nxt M.length (I (k + 1)), bk := N.nx })
    (hd : ∀ Γ M, I n Γ M → N.nx Γ M) (hf : ∀ env x, foldedSetIterable iter env x = pure x := by intro _ _; rfl) : SX c Γ M (.For tg iter body [] pos) N := by
  constructor
  intro X H0 as0 o as σ H D d f
  refine tS_of (ps_for o.own o.calm (pI X tg iter) (pG X tg) (pB X body) (hf _)) ?_
  refine hi.run X H0 as0 o as σ H _ d fun J as1 H1 l1 d1 w => ?_
  obtain ⟨Γ', fg, i0⟩ := h0
  refine ⟨fun i m σ' H' => m = n - i ∧ i ≤ n ∧ ∃ Γ2 M2 as2, Le as H as2 H' ∧ Le as1 H1 as2 H' ∧ Den c.K H0 as0 Γ2 M2 as2 σ' H' ∧ I i Γ2 M2, ⟨n, by simp, Nat.zero_le _, Γ', M1, as1, l1, Le.refl _ _, (d.next l1 d1).fg fg, i0⟩, ?_⟩
  rintro i m σ2 H2 ⟨rfl, hle, Γ2, M2, as2, l2, p2, d2, i2⟩
  have g2 := hG i Γ2 M2 hle i2
  by_cases hlt : i < n
  · refine .inr ⟨w.go i as2 H2 M2 hlt p2 d2.m g2, fun σ' H' => ∃ Γ3 M3 as3, Le as H as3 H' ∧ Le as1 H1 as3 H' ∧ Den c.K H0 as0 Γ3 M3 as3 σ' H' ∧ I (i + 1) Γ3 M3, ?_, fun x H3 y => ?_⟩
    · rintro σ' H' ⟨Γ3, M3, as3, q⟩
      exact ⟨n - (i + 1), by omega, rfl, hlt, Γ3, M3, as3, q⟩
    · obtain ⟨sm, sx⟩ := w.yld i as2 H2 M2 x H3 hlt p2 d2.m g2 y
      obtain ⟨Γ3, M3, gx, bx⟩ := hs i Γ2 M2 hlt i2
      have l3 : Le as2 H2 as2 H3 := .h (Same.tk sm)
      refine gx.run X H0 as0 o as2 σ2 H3 x _ (d2.next l3 (d2.m.grow sm)) sx fun as4 σ4 H4 l4 d4 => ?_
      have nxt : ∀ Γ5 M5 as5 σ5 H5, Nxt M2.length (I (i + 1)) Γ5 M5 → Le as4 H4 as5 H5 → Den c.K H0 as0 Γ5 M5 as5 σ5 H5 → ∃ Γ6 M6 as6, Le as H as6 H5 ∧ Le as1 H1 as6 H5 ∧ Den c.K H0 as0 Γ6 M6 as6 σ5 H5 ∧ I (i + 1) Γ6 M6 := by
        rintro Γ5 M5 as5 σ5 H5 ⟨Γ6, M6, wk, i6⟩ l5 d5
        have q := d5.weak d2.m.le0 wk
        rw [pick_nil ((l4.trans l5).pre) d2.m.len] at q
        exact ⟨Γ6, M6, as2, ⟨l2.pre, ((l2.trans l3).trans (l4.trans l5)).tk⟩, ⟨p2.pre, ((p2.trans l3).trans (l4.trans l5)).tk⟩, q, i6⟩
      refine bx.run X H0 as0 o as4 σ4 H4 _ d4 ⟨nxt, fun r M5 as5 v H5 h l5 d5 s5 => f.rt r M5 as5 v H5 h ((l2.trans l3).trans (l4.trans l5)) d5 s5, fun Γ5 M5 as5 σ5 H5 h l5 d5 => f.nx Γ5 M5 as5 σ5 H5 h ((l2.trans l3).trans (l4.trans l5)) d5, nxt⟩
  · have e : i = n := by omega
    subst e
    exact .inl ⟨w.stop as2 H2 M2 p2 d2.m g2, f.nx Γ2 M2 as2 σ2 H2 (hd Γ2 M2 i2) l2 d2⟩
theorem sx_while {t : Expr} (I : Nat → Gm → Sto → Prop) (h0 : ∃ m Γ', Fg Γ Γ' ∧ I m Γ' M)
    (hs : ∀ m Γ M, I m Γ M → ∃ q M1, ET c Γ M t q M1 ∧ (q = true → BX c Γ M1 body { N with nx := Nxt M.length (fun Γ' M' => ∃ m', m' < m ∧ I m' Γ' M'), ct := Nxt M.length (fun Γ' M' => ∃ m', m' < m ∧ I m' Γ' M'), bk := N.nx }) ∧ (q = false → N.nx Γ M1)) :
    SX c Γ M (.While t body [] pos) N := by
  constructor
  intro X H0 as0 o as σ H D d f
  refine tS_of (ps_while o.own (pT X t) (pB X body)) ?_
  obtain ⟨m0, Γ', fg, i0⟩ := h0
  refine ⟨fun m σ' H' => ∃ Γ2 M2 as2, Le as H as2 H' ∧ Den c.K H0 as0 Γ2 M2 as2 σ' H' ∧ I m Γ2 M2, ⟨m0, Γ', M, as, Le.refl _ _, d.fg fg, i0⟩, ?_⟩
  rintro m σ2 H2 ⟨Γ2, M2, as2, l2, d2, i2⟩
  obtain ⟨q, M3, et, h1, h2⟩ := hs m Γ2 M2 i2
  refine et.run X H0 as0 o as2 σ2 H2 _ d2 fun as3 H3 l3 d3 => ?_
  cases q with
  | false =>
    rw [if_neg Bool.false_ne_true]
    exact f.nx Γ2 M3 as3 σ2 H3 (h2 rfl) (l2.trans l3) (d2.next l3 d3)
  | true =>
    rw [if_pos rfl]
    refine ⟨fun σ' H' => ∃ m', m' < m ∧ ∃ Γ4 M4 as4, Le as H as4 H' ∧ Den c.K H0 as0 Γ4 M4 as4 σ' H' ∧ I m' Γ4 M4, fun σ' H' ⟨m', lt, q⟩ => ⟨m', lt, q⟩, ?_⟩
    have nxt : ∀ Γ5 M5 as5 σ5 H5, Nxt M2.length (fun Γ' M' => ∃ m', m' < m ∧ I m' Γ' M') Γ5 M5 → Le as3 H3 as5 H5 → Den c.K H0 as0 Γ5 M5 as5 σ5 H5 → ∃ m', m' < m ∧ ∃ Γ4 M4 as4, Le as H as4 H5 ∧ Den c.K H0 as0 Γ4 M4 as4 σ5 H5 ∧ I m' Γ4 M4 := by
      rintro Γ5 M5 as5 σ5 H5 ⟨Γ6, M6, wk, m', lt, i6⟩ l5 d5
      have q := d5.weak d2.m.le0 wk
      rw [pick_nil ((l3.trans l5).pre) d2.m.len] at q
      exact ⟨m', lt, Γ6, M6, as2, ⟨l2.pre, (l2.trans (l3.trans l5)).tk⟩, q, i6⟩
    exact (h1 rfl).run X H0 as0 o as3 σ2 H3 _ (d2.next l3 d3) ⟨nxt, fun r M5 as5 v H5 h l5 d5 s5 => f.rt r M5 as5 v H5 h (l2.trans (l3.trans l5)) d5 s5, fun Γ5 M5 as5 σ5 H5 h l5 d5 => f.nx Γ5 M5 as5 σ5 H5 h (l2.trans (l3.trans l5)) d5, nxt⟩

/-! ### what is walked -/
/-- the items of an object -/
def LItems : MO → List S → Prop
  | .lst xs, ss => ss = xs
  | .rl xs, ss => ss = xs
  | _, _ => False
theorem LItems.seq {K : PySem.W.Frag} {H : Hp} {as : List Addr} {m : MO} {ss : List S} {a : Addr} (h : LItems m ss) (r : MOk K H as a m) : ∃ vs, SqL K H a vs ∧ SVs K H as ss vs := by
  cases m with
  | lst xs => cases (show ss = xs from h); obtain ⟨vs, e, s⟩ := r; exact ⟨vs, SqL.of e, s⟩
  | rl xs => cases (show ss = xs from h); exact r
  | _ => exact h.elim
theorem SVs.list_inj {vs ws : List V} {X : Cx} {pins σ H s a} (I : Inv X pins σ H s) (h1 : SqL X.K H a vs) (h2 : SqL X.K H a ws) : vs = ws := I.list_inj h1 h2
/-- a list of the store -/
theorem ix_list' {k : Nat} {ss : List S} {m : MO} (he : EX c Γ M iter (.p k) M1) (hm : M1[k]? = some m) (hl : LItems m ss) : IX c Γ M tg iter ss.length (fun M => ∃ m, M[k]? = some m ∧ LItems m ss) (fun i => ss.getD i (.d .none)) M1 := by
  constructor
  intro X H0 as0 o as σ H R D q
  refine tI_of (pi_list (pE X iter)) ?_
  refine he.run X H0 as0 o as σ H _ D fun v as1 H1 l1 D1 s1 => ?_
  cases s1 with
  | p ea =>
    rename_i a
    obtain ⟨vs, hv, sv⟩ := hl.seq (D1.mem k m a hm ea)
    rw [o.K]
    refine ⟨a, rfl, ⟨vs, hv⟩, q _ as1 H1 l1 D1 ⟨fun i as2 H2 M2 hi p2 D2 ⟨m2, e2, g2⟩ => ?_, fun i as2 H2 M2 x H3 hi p2 D2 ⟨m2, e2, g2⟩ y => ?_, fun as2 H2 M2 p2 D2 ⟨m2, e2, g2⟩ => ?_⟩⟩
    · obtain ⟨ws, hw, sw⟩ := g2.seq (D2.mem k m2 a e2 (pre_get p2.pre ea))
      obtain ⟨v, ev, _⟩ := sw.at (List.getElem?_eq_getElem hi)
      exact ⟨ws, v, hw, ev⟩
    · obtain ⟨ws, hw, sw⟩ := g2.seq (D2.mem k m2 a e2 (pre_get p2.pre ea))
      obtain ⟨rfl, hy⟩ := y
      obtain ⟨v, ev, sv⟩ := sw.at (List.getElem?_eq_getElem hi)
      have ex := hy ws hw
      rw [ev] at ex
      cases ex
      refine ⟨fun _ _ h => h, ?_⟩
      simpa [List.getD, List.getElem?_eq_getElem hi] using sv
    · obtain ⟨ws, hw, sw⟩ := g2.seq (D2.mem k m2 a e2 (pre_get p2.pre ea))
      exact ⟨ws, hw, Nat.le_of_eq sw.length.symm⟩
/-- a tuple -/
theorem ix_tup' {ss : List S} (he : EX c Γ M iter s M1) (hl : Items s ss) : IX c Γ M tg iter ss.length (fun _ => True) (fun i => ss.getD i (.d .none)) M1 := by
  constructor
  intro X H0 as0 o as σ H R D q
  refine tI_of (pi_tup (pE X iter)) ?_
  refine he.run X H0 as0 o as σ H _ D fun v as1 H1 l1 D1 s1 => ?_
  obtain ⟨a, vs, rfl, ea, sv⟩ := hl.sv s1
  rw [o.K]
  have keep : ∀ {as2 H2}, Le as1 H1 as2 H2 → SqT c.K H2 a vs ∧ SVs c.K H2 as2 ss vs := fun p => ⟨SqT.of (p.tk _ _ ea), sv.le p⟩
  refine ⟨a, rfl, ⟨vs, SqT.of ea⟩, q _ as1 H1 l1 D1 ⟨fun i as2 H2 M2 hi p2 D2 g2 => ?_, fun i as2 H2 M2 x H3 hi p2 D2 g2 y => ?_, fun as2 H2 M2 p2 D2 g2 => ?_⟩⟩
  · obtain ⟨h1, h2⟩ := keep p2
    obtain ⟨v, ev, _⟩ := h2.at (List.getElem?_eq_getElem hi)
    exact ⟨vs, v, h1, ev⟩
  · obtain ⟨h1, h2⟩ := keep p2
    obtain ⟨rfl, hy⟩ := y
    obtain ⟨v, ev, sv⟩ := h2.at (List.getElem?_eq_getElem hi)
    have ex := hy vs h1
    rw [ev] at ex
    cases ex
    refine ⟨fun _ _ h => h, ?_⟩
    simpa [List.getD, List.getElem?_eq_getElem hi] using sv
  · obtain ⟨h1, h2⟩ := keep p2
    exact ⟨vs, h1, Nat.le_of_eq sv.length.symm⟩
abbrev gI : NameKind := .globalImplicit
/-- range(n), range(lo, hi) -/
theorem ix_range1 {n : Int} {p : Pos} {args : Expr} (he : EX c Γ M args (.d (.int n)) M1) (hn : n ≤ 1000000000 := by first | omega | decide) (h0 : -1000000000 ≤ n := by first | omega | decide) (hg : c.sc.names.lookup ("range" : Str) = some gI := by rfl) (hm : c.mg ("range" : Str) = none) (hs : ∀ env, starEach [args] env = [(false, eval args env)] := by intro _; rfl) :
    IX c Γ M tg (.Call (.Name "range" p) [args] [] pos) n.toNat (fun _ => True) (fun i => .d (.int (i : Nat))) M1 := by
  constructor
  intro X H0 as0 o as σ H R D q
  refine tI_of (pi_range1 (gl_ok o hg) (by rw [o.mg]; exact hm) (pA X [args]) (hs _)) ?_
  refine (ea_cons he ea_nil (fun env => by rw [hs]; rfl)).run X H0 as0 o as σ H _ D fun vs as1 H1 l1 D1 s1 => ?_
  cases s1 with
  | cons a b =>
    cases b
    cases sv_int a
    refine ⟨n, rfl, by omega, by omega, q _ as1 H1 l1 D1 ⟨fun i as2 H2 M2 hi p2 D2 g2 => hi, fun i as2 H2 M2 x H3 hi p2 D2 g2 y => ?_, fun as2 H2 M2 p2 D2 g2 => Nat.le_refl _⟩⟩
    obtain ⟨rfl, rfl⟩ := y
    refine ⟨fun _ _ h => h, ?_⟩
    rw [Int.zero_add]
    exact .d (.int _)
theorem ix_range2 {lo hi : Int} {p : Pos} {a1 a2 : Expr} (h1 : EX c Γ M a1 (.d (.int lo)) M1) (h2 : EX c Γ M1 a2 (.d (.int hi)) M2) (hn : hi ≤ 1000000000 := by first | omega | decide) (h0 : -1000000000 ≤ hi := by first | omega | decide)
    (hn' : lo ≤ 1000000000 := by first | omega | decide) (h0' : -1000000000 ≤ lo := by first | omega | decide) (hg : c.sc.names.lookup ("range" : Str) = some gI := by rfl) (hm : c.mg ("range" : Str) = none)
    (hs : ∀ env, starEach [a1, a2] env = [(false, eval a1 env), (false, eval a2 env)] := by intro _; rfl) (hs2 : ∀ env, starEach [a2] env = [(false, eval a2 env)] := by intro _; rfl) :
    IX c Γ M tg (.Call (.Name "range" p) [a1, a2] [] pos) (hi - lo).toNat (fun _ => True) (fun i => .d (.int (lo + (i : Nat)))) M2 := by
  constructor
  intro X H0 as0 o as σ H R D q
  refine tI_of (pi_range2 (gl_ok o hg) (by rw [o.mg]; exact hm) (pA X [a1, a2]) (hs _) (hs2 _)) ?_
  refine (ea_cons h1 (ea_cons h2 ea_nil (fun env => by rw [hs2]; rfl)) (fun env => by rw [hs, hs2])).run X H0 as0 o as σ H _ D fun vs as1 H1 l1 D1 s1 => ?_
  cases s1 with
  | cons a b =>
    cases b with
    | cons a' b' =>
    cases b'
    cases sv_int a
    cases sv_int a'
    refine ⟨lo, hi, rfl, ⟨by omega, by omega, by omega, by omega⟩, q _ as1 H1 l1 D1 ⟨fun i as2 H2 M2 hi p2 D2 g2 => hi, fun i as2 H2 M2 x H3 hi p2 D2 g2 y => ?_, fun as2 H2 M2 p2 D2 g2 => Nat.le_refl _⟩⟩
    obtain ⟨rfl, rfl⟩ := y
    exact ⟨fun _ _ h => h, .d (.int _)⟩
end

/-! ### functions -/
/-- args and the store's objects that are handed in, the result and the objects behind the call (the first ones are those handed in) -/
abbrev Rl := List S → Sto → S → Sto → Prop
def spD (K : PySem.W.Frag) (n : Nat) (R : Rl) : Sp := fun vs H Q _ => ∃ args M as r M', args.length = n ∧ R args M r M' ∧ DenM K H as M as H ∧ SVs K H as args vs ∧
  ∀ v as' H', Le as H as' H' → DenM K H as M' as' H' → SV K H' as' r v → Q v H'
/-- what is fixed of the module -/
structure Ms where
  P : Program
  w : World
  K : PySem.W.Frag
  mg : Str → Option Value
  base : Heap
abbrev Ms.cs (m : Ms) (N : List Str) (sc : Scope) (k : Nat) : Cs := ⟨m.P, m.w, m.K, m.mg, m.base, N, sc, k, fun _ => true, fun _ _ => True⟩
abbrev Cs.ms (c : Cs) : Ms := ⟨c.P, c.w, c.K, c.mg, c.base⟩
/-- the def x of the text keeps R -/
def FnD (m : Ms) (k : Nat) (x : Str) (ps : List Str) (R : Rl) : Prop :=
  ∃ f fd, m.mg x = some (.ref f) ∧ PySem.W.keepIn m.K (.ref f) = true ∧ Binds m.K fd ps [] ∧ FnOk m.P m.w m.K m.mg m.base CX0 k f fd ps (spD m.K ps.length R)
/-- the def x stands in the text as st -/
def HasD (m : Ms) (x : Str) (st : Stmt) (ps : List Str) : Prop :=
  ∃ f fd, m.mg x = some (.ref f) ∧ Fun m.K x x st f fd ∧ Binds m.K fd ps []
theorem own_never {M : Model} {A : Around} {env : Env} : PassesOwn M A env (fun _ _ => False) := PassesOwn.never
/-- behind a body: r' over M'' is told as r over M -/
def Fin (n : Nat) (r' : S) (M'' : Sto) (r : S) (M' : Sto) : Prop := ∃ js, Keep n js M'' M' ∧ Ren (keepR n js) r' r
theorem DenM.entry {K : PySem.W.Frag} {H : Hp} {as : List Addr} {M : Sto} (D : DenM K H as M as H) : as.length = M.length := D.len
theorem start_at {N : List Str} {vs : List V} {i : Nat} (h : i < vs.length) : (L2.start N vs)[i]? = some (some vs[i]) := by
  unfold L2.start
  rw [List.getElem?_append_left (by simpa using h), List.getElem?_map, List.getElem?_eq_getElem h]
  rfl
theorem fnD_of {m : Ms} {x : Str} {st : Stmt} {ps N : List Str} {R : Rl} {k : Nat} (h : HasD m x st ps) (S : FnScope N ps (defScope st)) (hl : ps.length ≤ N.length)
    (body : ∀ args M r M', args.length = ps.length → R args M r M' → BX (m.cs N (defScope st) k) (args.map some ++ List.replicate (N.length - ps.length) none) M (defBody st)
      { nx := fun _ M'' => Fin M.length (.d .none) M'' r M', rt := fun r' M'' => Fin M.length r' M'' r M' }) : FnD m (k + 1) x ps R := by
  obtain ⟨f, fd, hm, F, hb⟩ := h
  refine ⟨f, fd, hm, F.kp, hb, F.ok S (fun vs H Q E h => ?_) (fun cdv A outer s H vs Q E hr h => ?_)⟩
  · obtain ⟨args, M, as, r, M', e, _, _, sv, _⟩ := h
    rw [← sv.length, e]
  · obtain ⟨args, M, as, r, M', e, hR, D, sv, k1⟩ := h
    refine ⟨_, pB _ (defBody st), ?_⟩
    have o : OkE (m.cs N (defScope st) k) (cxOf CX0 m.P m.w m.K m.mg m.base N x (defScope st) f cdv A outer s H E).nox H as := ⟨⟨rfl, rfl, rfl, rfl, rfl, rfl, rfl, rfl, hr, S.nd, S.kind, own_never, fun _ _ => rfl⟩, trivial⟩
    have fin : ∀ r' M'' as' v H', Fin M.length r' M'' r M' → Le as H as' H' → DenM m.K H as M'' as' H' → SV m.K H' as' r' v → Q v H' := by
      rintro r' M'' as' v H' ⟨js, kp, rn⟩ l d s
      have q := d.keep (Nat.le_of_eq D.len) kp
      refine k1 v _ H' ⟨?_, l.tk⟩ q (s.ren (pick_ok d.len kp) rn)
      obtain ⟨t, et⟩ := l.pre
      unfold pick
      rw [← et, List.take_append_of_le_length (Nat.le_of_eq D.len.symm), List.take_of_length_le (Nat.le_of_eq D.len)]
      exact List.prefix_append _ _
    have hv : vs.length = ps.length := by rw [← sv.length, e]
    refine (body args M r M' e hR).run _ H as o as (L2.start N vs) H _ ⟨D, ?_, fun i t ht => ?_⟩ ⟨fun Γ2 M2 as2 σ2 H2 h l d => fin _ M2 as2 _ H2 h l d.m (.d .non), fun r2 M2 as2 v H2 h l d s => fin _ M2 as2 _ H2 h l d s, fun _ _ _ _ _ h => h.elim, fun _ _ _ _ _ h => h.elim⟩
    · unfold L2.start
      simp only [List.length_append, List.length_map, List.length_replicate, e, hv]
    · have hi : i < args.length := by
        by_cases q : i < args.length
        · exact q
        · rw [List.getElem?_append_right (by simpa using q), List.getElem?_replicate] at ht
          split at ht <;> cases ht
      rw [List.getElem?_append_left (by simpa using hi), List.getElem?_map, List.getElem?_eq_getElem hi] at ht
      cases ht
      obtain ⟨v, e1, e2⟩ := sv.at (List.getElem?_eq_getElem hi)
      refine ⟨v, ?_, e2⟩
      have hi' : i < vs.length := by omega
      rw [start_at hi']
      rw [List.getElem?_eq_getElem hi'] at e1
      rw [Option.some.inj e1]
end DL

namespace DL
open PySem PySem.Spec PyProof.Rows L2

/-! ### calls -/
def inR (ks : List Nat) : Nat → Option Nat := fun k => ks.idxOf? k
def outR (ks : List Nat) (n : Nat) : Nat → Option Nat := fun i => if i < ks.length then ks[i]? else some (n + (i - ks.length))
/-- the caller hands the objects at ks: its rs, M are the callee's args, Mc; the callee's r', Mc' are the caller's r, M' -/
structure Proj (ks : List Nat) (rs : List S) (M : Sto) (args : List S) (Mc : Sto) (r' : S) (Mc' : Sto) (r : S) (M' : Sto) : Prop where
  nd : ks.Nodup
  lt : ∀ k ∈ ks, k < M.length
  args : Rens (inR ks) rs args
  mc : Mc.length = ks.length
  mi : ∀ (i : Nat) k m, ks[i]? = some k → M[k]? = some m → ∃ m', Mc[i]? = some m' ∧ RenM (inR ks) m m'
  len : Mc.length ≤ Mc'.length
  len' : M'.length = M.length + (Mc'.length - ks.length)
  r : Ren (outR ks M.length) r' r
  old : ∀ k, k < M.length → k ∉ ks → M'[k]? = M[k]?
  back : ∀ (i : Nat) m j, Mc'[i]? = some m → outR ks M.length i = some j → ∃ m', M'[j]? = some m' ∧ RenM (outR ks M.length) m m'
theorem Rens.length {ρ : Nat → Option Nat} : ∀ {xs ys : List S}, Rens ρ xs ys → xs.length = ys.length
  | _, _, .nil => rfl
  | _, _, .cons _ b => congrArg (· + 1) (Rens.length b)
theorem getD_of {as : List Addr} {k : Nat} (h : k < as.length) : as[k]? = some (as.getD k 0) := by
  simp [List.getD, List.getElem?_eq_getElem h]
section
variable {K : PySem.W.Frag} {H0 H H' : Hp} {as0 as asc : List Addr} {M Mc Mc' M' : Sto} {ks : List Nat} {rs args : List S} {r r' : S}
abbrev sel (as : List Addr) (ks : List Nat) : List Addr := ks.map fun k => as.getD k 0
theorem inR_ok (nd : ks.Nodup) (lt : ∀ k ∈ ks, k < as.length) : RnOk (inR ks) as (sel as ks) := by
  intro k j e a ha
  have e1 := idxOf_get e
  rw [List.getElem?_map, e1]
  simp [List.getD, ha]
theorem sel_at (lt : ∀ k ∈ ks, k < as.length) {i : Nat} {a : Addr} (h : (sel as ks)[i]? = some a) : ∃ k, ks[i]? = some k ∧ as[k]? = some a := by
  rw [List.getElem?_map] at h
  obtain ⟨k, e, q⟩ := Option.map_eq_some_iff.mp h
  refine ⟨k, e, ?_⟩
  rw [getD_of (lt k (List.mem_of_getElem? e)), q]
theorem sel_nodup (nd : ks.Nodup) (lt : ∀ k ∈ ks, k < as.length) (ha : as.Nodup) : (sel as ks).Nodup := by
  induction ks with
  | nil => simp [sel]
  | cons k ks ih =>
    show (as.getD k 0 :: sel as ks).Nodup
    rw [List.nodup_cons]
    refine ⟨fun z => ?_, ih (List.nodup_cons.mp nd).2 fun j hj => lt j (List.mem_cons_of_mem _ hj)⟩
    obtain ⟨j, hj, ej⟩ := List.mem_map.mp z
    have q1 := getD_of (lt k List.mem_cons_self)
    have q2 := getD_of (lt j (List.mem_cons_of_mem _ hj))
    rw [ej] at q2
    obtain ⟨h1, q1⟩ := List.getElem?_eq_some_iff.mp q1
    obtain ⟨h2, q2⟩ := List.getElem?_eq_some_iff.mp q2
    have := (List.getElem_inj ha).mp (q1.trans q2.symm)
    subst this
    exact (List.nodup_cons.mp nd).1 hj
theorem RenM.oth_to {ρ : Nat → Option Nat} {m : MO} {φ : Hp → Addr → Prop} (r : RenM ρ (.oth φ) m) : m = .oth φ := by
  cases r
  rfl
/-- the callee's entry -/
theorem DenM.enter (D : DenM K H0 as0 M as H) (p : Proj ks rs M args Mc r' Mc' r M') : DenM K H (sel as ks) Mc (sel as ks) H := by
  have lt : ∀ k ∈ ks, k < as.length := fun k h => by rw [D.len]; exact p.lt k h
  have at_ : ∀ (i : Nat) m a, Mc[i]? = some m → (sel as ks)[i]? = some a → ∃ k m0, ks[i]? = some k ∧ as[k]? = some a ∧ M[k]? = some m0 ∧ RenM (inR ks) m0 m := fun i m a e1 e2 => by
    obtain ⟨k, ek, ea⟩ := sel_at lt e2
    have hk := p.lt k (List.mem_of_getElem? ek)
    obtain ⟨m', e3, rn⟩ := p.mi i k M[k] ek (List.getElem?_eq_getElem hk)
    rw [e1] at e3
    cases e3
    exact ⟨k, _, ek, ea, List.getElem?_eq_getElem hk, rn⟩
  refine ⟨sel_nodup p.nd lt D.nd, by rw [List.length_map, p.mc], ⟨[], by simp, by simp⟩, Tk.refl _, fun a o e _ => e, fun i m a e1 e2 => ?_, fun a ha => ?_, fun i φ e1 => ?_⟩
  · obtain ⟨k, m0, ek, ea, em, rn⟩ := at_ i m a e1 e2
    exact (D.mem k m0 a em ea).ren (inR_ok p.nd lt) rn
  · obtain ⟨k, hk, rfl⟩ := List.mem_map.mp ha
    exact D.there _ (List.mem_of_getElem? (getD_of (lt k hk)))
  · have hi : i < ks.length := by
      rw [← p.mc]
      exact (List.getElem?_eq_some_iff.mp e1).1
    obtain ⟨k, m0, ek, ea, em, rn⟩ := at_ i _ ((sel as ks)[i]'(by simpa [sel] using hi)) e1 (List.getElem?_eq_getElem _)
    exact D.st k φ (by rw [em, rn.oth_of])
/-- behind the callee -/
theorem DenM.back (D : DenM K H0 as0 M as H) (p : Proj ks rs M args Mc r' Mc' r M') (l : Le (sel as ks) H asc H') (C : DenM K H (sel as ks) Mc' asc H') :
    ∃ as', Le as H as' H' ∧ DenM K H0 as0 M' as' H' ∧ RnOk (outR ks M.length) asc as' := by
  have lt : ∀ k ∈ ks, k < as.length := fun k h => by rw [D.len]; exact p.lt k h
  obtain ⟨t, et, ht⟩ := C.new
  have hsl : (sel as ks).length = ks.length := by simp [sel]
  have hal : as.length = M.length := D.len
  have htl : t.length = Mc'.length - ks.length := by
    have := C.len
    rw [et, List.length_append, hsl] at this
    omega
  have tn : ∀ a ∈ t, a ∉ as := fun a ha hz => by
    obtain ⟨o, e, _⟩ := D.there a hz
    rw [ht a ha] at e
    cases e
  have ok : RnOk (outR ks M.length) asc (as ++ t) := by
    intro i j e a ha
    unfold outR at e
    rw [et] at ha
    split at e
    · rename_i hi
      rw [List.getElem?_append_left (by omega)] at ha
      obtain ⟨k, ek, ea⟩ := sel_at lt ha
      rw [e] at ek
      cases ek
      rw [List.getElem?_append_left (List.getElem?_eq_some_iff.mp ea).1]
      exact ea
    · rename_i hi
      cases e
      rw [List.getElem?_append_right (by omega), hsl] at ha
      rw [List.getElem?_append_right (by omega), hal, Nat.add_sub_cancel_left]
      exact ha
  have notin : ∀ (k : Nat) a, as[k]? = some a → k ∉ ks → a ∉ asc := fun k a ea hk hz => by
    rw [et] at hz
    rcases List.mem_append.mp hz with hz | hz
    · obtain ⟨j, hj, ej⟩ := List.mem_map.mp hz
      have q2 := getD_of (lt j hj)
      rw [ej] at q2
      obtain ⟨h1, q1⟩ := List.getElem?_eq_some_iff.mp ea
      obtain ⟨h2, q2⟩ := List.getElem?_eq_some_iff.mp q2
      have := (List.getElem_inj D.nd).mp (q1.trans q2.symm)
      subst this
      exact hk hj
    · exact tn a hz (List.mem_of_getElem? ea)
  have Lx : Le as H (as ++ t) H' := ⟨List.prefix_append _ _, l.tk⟩
  -- each object of the caller's new store
  have cases_ : ∀ (k : Nat) m a, M'[k]? = some m → (as ++ t)[k]? = some a → (k < M.length ∧ k ∉ ks ∧ M[k]? = some m ∧ as[k]? = some a) ∨ ∃ (i : Nat) (m0 : MO), Mc'[i]? = some m0 ∧ asc[i]? = some a ∧ RenM (outR ks M.length) m0 m := by
    intro k m a e1 e2
    by_cases hk : k < M.length
    · rw [List.getElem?_append_left (by omega)] at e2
      by_cases hm : k ∈ ks
      · obtain ⟨i, hi, ei⟩ := List.mem_iff_getElem.mp hm
        have hi' : i < Mc'.length := by have := p.mc; have := p.len; omega
        have eo : outR ks M.length i = some k := by
          unfold outR
          rw [if_pos hi, List.getElem?_eq_getElem hi, ei]
        obtain ⟨m', e3, rn⟩ := p.back i _ k (List.getElem?_eq_getElem hi') eo
        rw [e1] at e3
        cases e3
        refine .inr ⟨i, _, List.getElem?_eq_getElem hi', ?_, rn⟩
        rw [et, List.getElem?_append_left (by omega), List.getElem?_map, List.getElem?_eq_getElem hi, ei]
        simp [List.getD, e2]
      · exact .inl ⟨hk, hm, by rw [← p.old k hk hm]; exact e1, e2⟩
    · have q := (List.getElem?_eq_some_iff.mp e1).1
      rw [p.len'] at q
      have hi' : ks.length + (k - M.length) < Mc'.length := by have := p.mc; have := p.len; omega
      have eo : outR ks M.length (ks.length + (k - M.length)) = some k := by
        unfold outR
        rw [if_neg (by omega)]
        congr 1
        omega
      obtain ⟨m', e3, rn⟩ := p.back _ _ k (List.getElem?_eq_getElem hi') eo
      rw [e1] at e3
      cases e3
      refine .inr ⟨_, _, List.getElem?_eq_getElem hi', ?_, rn⟩
      rw [List.getElem?_append_right (by omega), hal] at e2
      rw [et, List.getElem?_append_right (by omega), hsl, Nat.add_sub_cancel_left]
      exact e2
  refine ⟨as ++ t, Lx, ⟨?_, ?_, ?_, D.le.trans l.tk, fun a o h1 h2 => ?_, fun k m a e1 e2 => ?_, fun a ha => ?_, fun k φ e1 => ?_⟩, ok⟩
  · rw [List.nodup_append]
    refine ⟨D.nd, ?_, fun a ha b hb z => tn b hb (z ▸ ha)⟩
    have := C.nd
    rw [et, List.nodup_append] at this
    exact this.2.1
  · rw [List.length_append, p.len', htl, hal]
  · obtain ⟨l0, e0, h0⟩ := D.new
    refine ⟨l0 ++ t, by rw [e0, List.append_assoc], fun a ha => ?_⟩
    rcases List.mem_append.mp ha with z | z
    · exact h0 a z
    · exact D.h0 (ht a z)
  · have h3 : a ∉ as := fun z => h2 (List.mem_append_left _ z)
    refine C.fr a o (D.fr a o h1 h3) fun z => ?_
    rw [et] at z
    rcases List.mem_append.mp z with z | z
    · obtain ⟨j, hj, ej⟩ := List.mem_map.mp z
      have q2 := getD_of (lt j hj)
      rw [ej] at q2
      exact h3 (List.mem_of_getElem? q2)
    · exact h2 (List.mem_append_right _ z)
  · rcases cases_ k m a e1 e2 with ⟨hk, hm, em, ea⟩ | ⟨i, m0, em, ea, rn⟩
    · have ha : H' a = H a := by
        obtain ⟨o, e, _⟩ := D.there a (List.mem_of_getElem? ea)
        rw [e, C.fr a o e (notin k a ea hm)]
      exact MOk.le Lx ha (fun φ e h => by subst e; exact D.st k φ em H H' a h ha) (D.mem k m a em ea)
    · exact (C.mem i m0 a em ea).ren ok rn
  · rcases List.mem_append.mp ha with z | z
    · obtain ⟨k, hk, ek⟩ := List.mem_iff_getElem.mp z
      have ea : as[k]? = some a := by rw [List.getElem?_eq_getElem hk, ek]
      by_cases hm : k ∈ ks
      · refine C.there a ?_
        rw [et]
        refine List.mem_append_left _ (List.mem_map.mpr ⟨k, hm, ?_⟩)
        simp [List.getD, ea]
      · obtain ⟨o, e, n⟩ := D.there a z
        exact ⟨o, C.fr a o e (notin k a ea hm), n⟩
    · refine C.there a ?_
      rw [et]
      exact List.mem_append_right _ z
  · have hk : k < (as ++ t).length := by
      have q := (List.getElem?_eq_some_iff.mp e1).1
      rw [p.len'] at q
      rw [List.length_append]
      omega
    rcases cases_ k _ _ e1 (List.getElem?_eq_getElem hk) with ⟨_, _, em, _⟩ | ⟨i, m0, em, _, rn⟩
    · exact D.st k φ em
    · exact C.st i φ (by rw [em, rn.oth_of])
end
section
variable {c : Cs} {Γ : Gm} {M M1 M2 Mc Mc' : Sto} {e : Expr} {es : List Expr} {r r' : S} {rs args : List S} {p pos : Pos} {x : Str} {ps : List Str} {R : Rl} {j : Nat}
theorem ex_call (ks : List Nat) (F : FnD c.ms j x ps R) (ha : EA c Γ M (e :: es) rs M1) (hR : R args Mc r' Mc') (hp : Proj ks rs M1 args Mc r' Mc' r M2) (hl : rs.length = ps.length) (hj : j ≤ c.k := by exact Nat.le_of_ble_eq_true rfl) (hg : c.sc.names.lookup x = some gI := by rfl)
    (hdb : (x == ("__debug__" : Str)) = false := by decide) (he : ∀ env, starEach (e :: es) env = (false, eval e env) :: starEach es env := by intro _; rfl) (hpl : ∀ env, (backTo pos (starEach es env)).any (·.1) = false := by intro _; rfl) :
    EX c Γ M (.Call (.Name x p) (e :: es) [] pos) r M2 := by
  constructor
  intro X H0 as0 o as σ H Q D k
  obtain ⟨f, fd, hm, hk, hb, G⟩ := F
  have G' : FnOk X.prog X.w X.K X.mg X.base CX0 j f fd ps (spD c.K ps.length R) := by
    rw [o.P, o.w, o.K, o.mg, o.base]
    exact G
  refine tE_of (pe_call G' (o.room.mono hj) (gl_ok o hg) (by rw [o.mg]; exact hm) (by rw [o.K]; exact hk) (by rw [o.K]; exact hb) .nil pass0 (pA X _) hdb (he _) (hpl _)) ?_
  refine ha.run X H0 as0 o as σ H _ D fun vs as1 H1 l1 D1 s1 => ?_
  rw [List.append_nil]
  refine ⟨args, Mc, sel as1 ks, r', Mc', ?_, hR, D1.enter hp, s1.ren (inR_ok hp.nd fun k h => by rw [D1.len]; exact hp.lt k h) hp.args, fun v asc H2 l2 C s2 => ?_⟩
  · rw [← hp.args.length, hl]
  · obtain ⟨as2, l3, D2, ok⟩ := D1.back hp l2 C
    exact k v as2 H2 (l1.trans l3) D2 (s2.ren ok hp.r)
/-- data in, data out -/
theorem proj_d {ds : List PyData} {d : PyData} {M : Sto} : Proj [] (ds.map S.d) M (ds.map S.d) [] (.d d) [] (.d d) M where
  nd := List.nodup_nil
  lt := fun _ h => by cases h
  args := Rens.data _ _
  mc := rfl
  mi := fun i k m e => by simp at e
  len := Nat.le_refl _
  len' := by simp
  r := .d d
  old := fun _ _ _ => rfl
  back := fun i m j e => by simp at e
/-- data in, a new object without pointers out -/
theorem proj_n {ds : List PyData} {M : Sto} {m : MO} (hm : RenM (outR [] M.length) m m) : Proj [] (ds.map S.d) M (ds.map S.d) [] (.p 0) [m] (.p M.length) (M ++ [m]) where
  nd := List.nodup_nil
  lt := fun _ h => by cases h
  args := Rens.data _ _
  mc := rfl
  mi := fun i k m e => by simp at e
  len := Nat.zero_le _
  len' := by simp
  r := .p rfl
  old := fun k h _ => List.getElem?_append_left h
  back := fun i m' j e eo => by
    have hi : i = 0 := by
      have := (List.getElem?_eq_some_iff.mp e).1
      simp at this
      exact this
    subst hi
    simp at e
    subst e
    have ej : j = M.length := by
      have : some (M.length + (0 - 0)) = some j := eo
      simpa using this.symm
    subst ej
    exact ⟨m, by simp, hm⟩
end
end DL

namespace DL
open PySem PySem.Spec PyProof.Rows L2

section
variable {c : Cs} {Γ : Gm} {M M' M1 M2 M3 : Sto} {e a b : Expr} {r x y z s : S} {pos : Pos} {i j : Int}
/-! ### operations on two values -/
theorem os_of {f : Value → Value → Sem Value} (R : Cx → R2) (hR : ∀ X, OkX c X → OpR X f (R X))
    (hq : ∀ X H0 as0, OkE c X H0 as0 → ∀ as H u v (Q : VK), DenM c.K H0 as0 M as H → SV c.K H as x u → SV c.K H as y v → (∀ z as' H', Le as H as' H' → DenM c.K H0 as0 M' as' H' → SV c.K H' as' r z → Q z H') → R X u v H Q) : OS c f x y M r M' :=
  ⟨fun X H0 as0 o => ⟨R X, hR X o, hq X H0 as0 o⟩⟩
/-- the store and the heap stay; the answer is told by the values alone -/
theorem os_val {f : Value → Value → Sem Value} {R : R2} (hR : ∀ X, OkX c X → OpR X f R) (hq : ∀ H as u v (Q : VK), SV c.K H as x u → SV c.K H as y v → (∀ z, SV c.K H as r z → Q z H) → R u v H Q) : OS c f x y M r M :=
  os_of (fun _ => R) hR fun _ _ _ _ as H u v Q D sx sy k => hq H as u v Q sx sy fun z sz => k z as H (Le.refl _ _) D sz
theorem os_int {f : Value → Value → Sem Value} {C : Int → Int → Prop} {g : Int → Int → Int} (hR : ∀ X, OpR X f (rI C fun i j => .int (g i j))) (hc : C i j) : OS c f (.d (.int i)) (.d (.int j)) M (.d (.int (g i j))) M :=
  os_val (fun X _ => hR X) fun H as u v Q sx sy k => ⟨i, j, sv_int sx, sv_int sy, hc, k _ (.d (.int _))⟩
theorem os_int0 {f : Value → Value → Sem Value} {g : Int → Int → Int} (hR : ∀ X, OpR X f (rI0 fun i j => .int (g i j))) : OS c f (.d (.int i)) (.d (.int j)) M (.d (.int (g i j))) M :=
  os_val (fun X _ => hR X) fun H as u v Q sx sy k => ⟨i, j, sv_int sx, sv_int sy, k _ (.d (.int _))⟩
theorem os_boo0 {f : Value → Value → Sem Value} {g : Int → Int → Bool} (hR : ∀ X, OpR X f (rI0 fun i j => .bl (g i j))) : OS c f (.d (.int i)) (.d (.int j)) M (.d (.bool (g i j))) M :=
  os_val (fun X _ => hR X) fun H as u v Q sx sy k => ⟨i, j, sv_int sx, sv_int sy, k _ (.d (.bl _))⟩
theorem os_add : OS c (binaryOp .Add) (.d (.int i)) (.d (.int j)) M (.d (.int (i + j))) M := os_int0 fun _ => op_add
theorem os_sub : OS c (binaryOp .Sub) (.d (.int i)) (.d (.int j)) M (.d (.int (i - j))) M := os_int0 fun _ => op_sub
theorem os_mul (h : CMul i j) : OS c (binaryOp .Mult) (.d (.int i)) (.d (.int j)) M (.d (.int (i * j))) M := os_int (fun _ => op_mul) h
theorem os_mod (h : 0 < j) : OS c (binaryOp .Mod) (.d (.int i)) (.d (.int j)) M (.d (.int (i % j))) M := os_int (fun _ => op_mod) h
theorem os_div (h : 0 < j ∧ j < 1073741824) : OS c (binaryOp .FloorDiv) (.d (.int i)) (.d (.int j)) M (.d (.int (i / j))) M := os_int (C := CDiv) (fun _ => op_fdiv) h
theorem os_pow (h : CPow i j) : OS c (binaryOp .Pow) (.d (.int i)) (.d (.int j)) M (.d (.int (i ^ j.toNat))) M := os_int (fun _ => op_pow) h
theorem os_lt : OS c (compareOp .Lt) (.d (.int i)) (.d (.int j)) M (.d (.bool (decide (i < j)))) M := os_boo0 fun _ => op_lt
theorem os_le : OS c (compareOp .LtE) (.d (.int i)) (.d (.int j)) M (.d (.bool (decide (i ≤ j)))) M := os_boo0 fun _ => op_le
theorem os_gt : OS c (compareOp .Gt) (.d (.int i)) (.d (.int j)) M (.d (.bool (decide (j < i)))) M := os_boo0 fun _ => op_gt
theorem os_ge : OS c (compareOp .GtE) (.d (.int i)) (.d (.int j)) M (.d (.bool (decide (j ≤ i)))) M := os_boo0 fun _ => op_ge
/-- == of ints, texts -/
theorem os_eqI : OS c (compareOp .Eq) (.d (.int i)) (.d (.int j)) M (.d (.bool (decide (i = j)))) M :=
  os_val (fun X _ => op_eq) fun H as u v Q sx sy k => by
    cases sv_int sx
    cases sv_int sy
    refine ⟨rfl, ?_⟩
    rw [dec_int, Bool.beq_eq_decide_eq]
    exact k _ (.d (.bl _))
theorem os_neI : OS c (compareOp .NotEq) (.d (.int i)) (.d (.int j)) M (.d (.bool (!decide (i = j)))) M :=
  os_val (fun X _ => op_ne) fun H as u v Q sx sy k => by
    cases sv_int sx
    cases sv_int sy
    refine ⟨rfl, ?_⟩
    rw [dec_int, Bool.beq_eq_decide_eq]
    exact k _ (.d (.bl _))
/-! ### data of values, lists among them -/
/-- what a value is as data; lists of the store read whole -/
inductive Dt (M : Sto) : S → PyData → Prop
  | d (x : PyData) : Dt M (.d x) x
  | l {k : Nat} {m : MO} {ss : List S} {ds : List PyData} : M[k]? = some m → LItems m ss → ss = ds.map S.d → Dt M (.p k) (.list ds)
theorem Dt.dp {K : PySem.W.Frag} {H0 H : Hp} {as0 as : List Addr} {d : PyData} {v : V} (D : DenM K H0 as0 M as H) (h : Dt M s d) (r : SV K H as s v) : Dp K H v d := by
  cases h with
  | d => cases r with | d q => exact q.dp
  | l e1 e2 e3 =>
    cases r with
    | p ea =>
      obtain ⟨vs, h1, h2⟩ := e2.seq (D.mem _ _ _ e1 ea)
      subst e3
      exact .lst h1 (SVs.data h2).dp
theorem os_eqD {d e : PyData} (hx : Dt M x d) (hy : Dt M y e) (sd : SeqAt.shaped d = true) (se : SeqAt.shaped e = true) : OS c (compareOp .Eq) x y M (.d (.bool (PyData.eqv d e))) M :=
  os_of (fun X => rEqD X.K) (fun X o => op_eqD o.room.units) fun X H0 as0 o as H u v Q D sx sy k => by
    rw [o.K]
    exact ⟨d, e, hx.dp D sx, hy.dp D sy, sd, se, k _ as H (Le.refl _ _) D (.d (.bl _))⟩
theorem os_neD {d e : PyData} (hx : Dt M x d) (hy : Dt M y e) (sd : SeqAt.shaped d = true) (se : SeqAt.shaped e = true) : OS c (compareOp .NotEq) x y M (.d (.bool (!PyData.eqv d e))) M :=
  os_of (fun X => rNeD X.K) (fun X o => op_neD o.room.units) fun X H0 as0 o as H u v Q D sx sy k => by
    rw [o.K]
    exact ⟨d, e, hx.dp D sx, hy.dp D sy, sd, se, k _ as H (Le.refl _ _) D (.d (.bl _))⟩
/-! ### a new object -/
theorem new_obj {K : PySem.W.Frag} {H0 H : Hp} {as0 as : List Addr} {o : HO} {m : MO} {Q : VK} (D : DenM K H0 as0 M as H) {p : Addr} (hp : H p = none) (hn : ∀ xs, o ≠ .tup xs) (hm : MOk K (upd H p o) (as ++ [p]) p m) (hs : ∀ φ, m = .oth φ → Stands φ)
    (k : ∀ z as' H', Le as H as' H' → DenM K H0 as0 (M ++ [m]) as' H' → SV K H' as' (.p M.length) z → Q z H') : Q (.ref p) (upd H p o) := by
  refine k (.ref p) (as ++ [p]) _ ⟨List.prefix_append _ _, Same.tk (Same.new hp)⟩ (D.push hp hn hm hs) (.p ?_)
  rw [← D.len, List.getElem?_append_right (Nat.le_refl _)]
  simp
theorem new_tup {K : PySem.W.Frag} {H0 H : Hp} {as0 as : List Addr} {vs : List V} {ss : List S} {Q : VK} (D : DenM K H0 as0 M as H) {p : Addr} (hp : H p = none) (hs : SVs K H as ss vs)
    (k : ∀ z as' H', Le as H as' H' → DenM K H0 as0 M as' H' → SV K H' as' (mkT ss) z → Q z H') : Q (.ref p) (upd H p (.tup vs)) :=
  k (.ref p) as _ (.h (Same.tk (Same.new hp))) (D.grow (Same.new hp)) (mkT_sv (hs.le (.h (Same.tk (Same.new hp)))) upd_same)
theorem le_new {as : List Addr} {H : Hp} {p : Addr} {o : HO} (hp : H p = none) : Le as H (as ++ [p]) (upd H p o) := ⟨List.prefix_append _ _, Same.tk (Same.new hp)⟩
theorem mok_lst {K : PySem.W.Frag} {H : Hp} {as : List Addr} {p : Addr} {vs : List V} {ss : List S} (hp : H p = none) (h : SVs K H as ss vs) : MOk K (upd H p (.lst vs)) (as ++ [p]) p (.lst ss) := ⟨vs, upd_same, h.le (le_new hp)⟩
theorem no_lst {xs : List V} : ∀ ys, HO.lst xs ≠ .tup ys := fun _ z => by cases z
theorem no_oth {xs : List S} : ∀ φ, MO.lst xs = .oth φ → Stands φ := fun _ z => by cases z
/-- list + list -/
theorem os_cat {k j : Nat} {xs ys : List S} (hx : M[k]? = some (.lst xs)) (hy : M[j]? = some (.lst ys)) (hl : xs.length + ys.length ≤ 1000000) : OS c (binaryOp .Add) (.p k) (.p j) M (.p M.length) (M ++ [.lst (xs ++ ys)]) :=
  os_of (fun _ => rCat) (fun X o => op_cat) fun X H0 as0 o as H u v Q D sx sy q => by
    cases sx with
    | p ea =>
      cases sy with
      | p eb =>
        obtain ⟨us, h1, s1⟩ := D.mem k _ _ hx ea
        obtain ⟨ws, h2, s2⟩ := D.mem j _ _ hy eb
        refine ⟨_, _, us, ws, rfl, rfl, h1, h2, ?_, fun p hp => new_obj D hp no_lst (mok_lst hp (s1.app s2)) no_oth q⟩
        rw [← s1.length, ← s2.length]
        exact Nat.le_trans hl (by decide)
/-- list * int -/
theorem os_rep {k : Nat} {xs : List S} (hx : M[k]? = some (.lst xs)) (h0 : -(2 ^ 63) ≤ j) (h1 : j < 2 ^ 63) (hl : xs.length * j.toNat ≤ 1000000) : OS c (binaryOp .Mult) (.p k) (.d (.int j)) M (.p M.length) (M ++ [.lst (List.replicate j.toNat xs).flatten]) :=
  os_of (fun _ => rRep) (fun X o => op_rep) fun X H0 as0 o as H u v Q D sx sy q => by
    cases sv_int sy
    cases sx with
    | p ea =>
      obtain ⟨us, h1', s1⟩ := D.mem k _ _ hx ea
      refine ⟨_, j, us, rfl, rfl, h1', h0, h1, ?_, fun p hp => new_obj D hp no_lst (mok_lst hp ?_) no_oth q⟩
      · rw [← s1.length]
        exact Nat.le_trans hl (by decide)
      · have : ∀ n : Nat, SVs c.K H as (List.replicate n xs).flatten (List.replicate n us).flatten := fun n => by
          induction n with
          | zero => exact .nil
          | succ n ih =>
            rw [List.replicate_succ, List.replicate_succ, List.flatten_cons, List.flatten_cons]
            exact s1.app ih
        exact this _
/-- tuple * int -/
theorem os_repT {ss : List S} (hi : Items x ss) (hne : ss ≠ []) (h2 : 2 ≤ j) (hk : j ≤ 1000) (hl : ss.length ≤ 1000) : OS c (binaryOp .Mult) x (.d (.int j)) M (mkT (List.replicate j.toNat ss).flatten) M :=
  os_of (fun X => rRepT X.K) (fun X o => op_repT) fun X H0 as0 o as H u v Q D sx sy q => by
    cases sv_int sy
    obtain ⟨a, vs, rfl, e, sv⟩ := hi.sv sx
    refine ⟨a, j, vs, rfl, rfl, SqT.of e, ?_, h2, hk, by rw [← sv.length]; exact hl, fun p hp => new_tup D hp ?_ q⟩
    · intro z
      subst z
      cases sv
      exact hne rfl
    · have : ∀ n : Nat, SVs c.K H as (List.replicate n ss).flatten (List.replicate n vs).flatten := fun n => by
        induction n with
        | zero => exact .nil
        | succ n ih =>
          rw [List.replicate_succ, List.replicate_succ, List.flatten_cons, List.flatten_cons]
          exact sv.app ih
      exact this _
/-- text + text -/
theorem os_addS {p q : Str} (hl : p.length + q.length ≤ 1000000) : OS c (binaryOp .Add) (.d (.str p)) (.d (.str q)) M (.d (.str (p ++ q))) M :=
  os_val (fun X _ => op_add_str) fun H as u v Q sx sy k => ⟨p, q, sv_str sx, sv_str sy, Nat.le_trans hl (by decide), k _ (.d (.str _))⟩
/-- text in text -/
theorem os_inS {p q : Str} : OS c (compareOp .In) (.d (.str p)) (.d (.str q)) M (.d (.bool (!(Builtin.Str.occurrences q p 0 q.length 1).isEmpty))) M :=
  os_val (fun X _ => op_in_str) fun H as u v Q sx sy k => ⟨p, q, sv_str sx, sv_str sy, k _ (.d (.bl _))⟩
/-- is None -/
theorem sv_notnone {K : PySem.W.Frag} {H : Hp} {as : List Addr} {v : V} (h : SV K H as s v) : (v = .non) ↔ (s = .d .none ∨ s = .v .non) := by
  cases h with
  | d q => cases q <;> simp
  | p q => simp
  | v u => simp
  | t q f => simp
def isN : S → Bool
  | .d .none => true
  | .v .non => true
  | _ => false
theorem isN_of {K : PySem.W.Frag} {H : Hp} {as : List Addr} {v : V} (h : SV K H as s v) : decide (v = .non) = isN s := by
  cases h with
  | d q => cases q <;> simp [isN]
  | p q => simp [isN]
  | v => cases v <;> simp [isN]
  | t q f => simp [isN]
theorem os_is : OS c (compareOp .Is) x (.d .none) M (.d (.bool (isN x))) M :=
  os_val (fun X _ => op_isN) fun H as u v Q sx sy k => by
    refine ⟨sv_none sy, ?_⟩
    rw [isN_of sx]
    exact k _ (.d (.bl _))
theorem os_isnot : OS c (compareOp .IsNot) x (.d .none) M (.d (.bool (!isN x))) M :=
  os_val (fun X _ => op_notN) fun H as u v Q sx sy k => by
    refine ⟨sv_none sy, ?_⟩
    rw [isN_of sx]
    exact k _ (.d (.bl _))

/-! ### items -/
theorem ex_ixL {k : Nat} {m : MO} {ss : List S} (ha : EX c Γ M a (.p k) M1) (hb : EX c Γ M1 b (.d (.int i)) M2) (hm : M2[k]? = some m) (hl : LItems m ss) (hi : atI ss i = some s) (hs : PlainIx b := by exact fun _ _ => rfl) : EX c Γ M (.Subscript a b pos) s M2 := by
  constructor
  intro X H0 as0 o as σ H Q D q
  refine tE_of (pe_ix ix_list (pE X a) (pE X b) hs) ?_
  refine ha.run X H0 as0 o as σ H _ D fun u as1 H1 l1 D1 s1 => ?_
  refine hb.run X H0 as0 o as1 σ H1 _ (D.next l1 D1) fun v as2 H2 l2 D2 s2 => ?_
  cases sv_int s2
  cases s1 with
  | p ea =>
    obtain ⟨vs, h1, h2⟩ := hl.seq (D2.mem k m _ hm (pre_get l2.pre ea))
    obtain ⟨j, e1, e2, _⟩ := atI_get hi
    obtain ⟨v, ev, sv⟩ := h2.at e2
    rw [o.K]
    refine ⟨_, vs, i, v, rfl, rfl, h1, ?_, q v as2 H2 (l1.trans l2) D2 sv⟩
    unfold atI at hi ⊢
    rw [← h2.length]
    cases hx : ixN ss.length i with
    | none => rw [hx] at hi; cases hi
    | some j' =>
      rw [hx] at hi
      have hi' : ss[j']? = some s := hi
      obtain ⟨v', ev', sv'⟩ := h2.at hi'
      have : seqIndex? i ss.length = some j' := (ixN_seq hx).1
      rw [e1] at this
      cases this
      show vs[j]? = some v
      exact ev
theorem ex_ixT {x : S} {ss : List S} (ha : EX c Γ M a x M1) (hb : EX c Γ M1 b (.d (.int i)) M2) (hl : Items x ss) (hi : atI ss i = some s) (hs : PlainIx b := by exact fun _ _ => rfl) : EX c Γ M (.Subscript a b pos) s M2 := by
  constructor
  intro X H0 as0 o as σ H Q D q
  refine tE_of (pe_ix ix_tup (pE X a) (pE X b) hs) ?_
  refine ha.run X H0 as0 o as σ H _ D fun u as1 H1 l1 D1 s1 => ?_
  refine hb.run X H0 as0 o as1 σ H1 _ (D.next l1 D1) fun v as2 H2 l2 D2 s2 => ?_
  cases sv_int s2
  obtain ⟨p, vs, rfl, h1, h2⟩ := hl.sv (s1.le l2)
  obtain ⟨j, e1, e2, _⟩ := atI_get hi
  obtain ⟨v, ev, sv⟩ := h2.at e2
  rw [o.K]
  refine ⟨_, vs, i, v, rfl, rfl, SqT.of h1, ?_, q v as2 H2 (l1.trans l2) D2 sv⟩
  unfold atI at hi ⊢
  rw [← h2.length]
  cases hx : ixN ss.length i with
  | none => rw [hx] at hi; cases hi
  | some j' =>
    have : seqIndex? i ss.length = some j' := (ixN_seq hx).1
    rw [e1] at this
    cases this
    show vs[j]? = some v
    exact ev
end
end DL

namespace DL
open PySem PySem.Spec PyProof.Rows L2

/-! ### comprehensions -/
abbrev cB (c : Cs) (scope : Scope) : Cs := { c with sc := relS scope c.sc, own := fun x => scope.names.lookup x == some .cell }
theorem okB {c : Cs} {X : Cx} {scope : Scope} {own : List (Str × Nat)} {H0 : Hp} {as0 : List Addr} (o : OkE c X H0 as0) (ok : BlkOk c.N c.sc scope own) (s : Shared) (H : Hp) (C : Addr) (cl : List (Str × Addr)) (fp : List Addr) : OkE (cB c scope) (Cx.blk X s H scope (compEnvC scope cl C X.env) fp) H0 as0 :=
  ⟨⟨o.P, o.w, o.K, o.mg, o.base, o.N, (by show relS scope X.env.scope = relS scope c.sc; rw [o.sc]), o.calm, o.room, o.nd, ok.kind, own_never, fun x h => h⟩, o.ent⟩
/-- the tests of a comprehension: none, or one -/
def EI (c : Cs) (Γ : Gm) (M : Sto) (ifs : List Expr) (q : Bool) (M' : Sto) : Prop := (ifs = [] ∧ q = true ∧ M' = M) ∨ ∃ t, ifs = [t] ∧ ET c Γ M t q M'
theorem ei_nil {c : Cs} {Γ : Gm} {M : Sto} : EI c Γ M [] true M := .inl ⟨rfl, rfl, rfl⟩
theorem ei_one {c : Cs} {Γ : Gm} {M M' : Sto} {t : Expr} {q : Bool} (h : ET c Γ M t q M') : EI c Γ M [t] q M' := .inr ⟨t, rfl, h⟩
def tFm (X : Cx) (scope : Scope) : List Expr → TT
  | [] => tYes
  | t :: _ => fun σ H Q => ∀ (s : Shared) (H' : Hp) (C : Addr) (cl : List (Str × Addr)) (fp : List Addr), tT (Cx.blk X s H' scope (compEnvC scope cl C X.env) fp) t σ H Q
theorem pFm {X : Cx} {scope : Scope} {ifs : List Expr} (h : ifs.length ≤ 1) (s : Shared) (H' : Hp) (C : Addr) (cl : List (Str × Addr)) (fp : List Addr) : PTs (Cx.blk X s H' scope (compEnvC scope cl C X.env) fp) ifs (tFm X scope ifs) := by
  match ifs, h with
  | [], _ => exact pts_nil
  | [t], _ => exact pts_one ⟨fun pins s2 σ H Q I q => q s H' C cl fp pins s2 I⟩
  | _ :: _ :: _, h => exact absurd h (by simp)
def tGm (X : Cx) (scope : Scope) (tg : Expr) : TG := fun v σ H Q => ∀ (s : Shared) (H' : Hp) (C : Addr) (cl : List (Str × Addr)) (fp : List Addr), tG (Cx.blk X s H' scope (compEnvC scope cl C X.env) fp) tg v σ H Q
def tEm (X : Cx) (scope : Scope) (e : Expr) : TE := fun σ H Q => ∀ (s : Shared) (H' : Hp) (C : Addr) (cl : List (Str × Addr)) (fp : List Addr), tE (Cx.blk X s H' scope (compEnvC scope cl C X.env) fp) e σ H Q
def wipeG : Gm → List Nat → Gm
  | Γ, [] => Γ
  | Γ, v :: vs => (wipeG Γ vs).set v none
theorem wipeG_len (Γ : Gm) : ∀ vs, (wipeG Γ vs).length = Γ.length
  | [] => rfl
  | v :: vs => by unfold wipeG; rw [List.length_set, wipeG_len Γ vs]
theorem wipeG_at {Γ : Gm} {i : Nat} {s : S} : ∀ {vs : List Nat}, (wipeG Γ vs)[i]? = some (some s) → Γ[i]? = some (some s) ∧ i ∉ vs
  | [], h => ⟨h, by simp⟩
  | v :: vs, h => by
    unfold wipeG at h
    by_cases hi : v = i
    · subst hi
      by_cases hv : v < (wipeG Γ vs).length
      · rw [List.getElem?_set_self hv] at h; cases h
      · rw [List.getElem?_eq_none (by simpa using hv)] at h; cases h
    · rw [List.getElem?_set_ne hi] at h
      obtain ⟨h1, h2⟩ := wipeG_at h
      exact ⟨h1, by simp only [List.mem_cons, not_or]; exact ⟨fun e => hi e.symm, h2⟩⟩
theorem wipe_at {σ : L2.St} {i : Nat} : ∀ {vs : List Nat}, i ∉ vs → (wipe σ vs)[i]? = σ[i]?
  | [], _ => rfl
  | v :: vs, h => by
    unfold wipe
    simp only [List.mem_cons, not_or] at h
    rw [List.getElem?_set_ne (fun e => h.1 e.symm)]
    exact wipe_at h.2
theorem Den.wipe {K : PySem.W.Frag} {H0 H : Hp} {as0 as : List Addr} {σ : L2.St} {Γ : Gm} {M : Sto} (D : Den K H0 as0 Γ M as σ H) (vs : List Nat) : Den K H0 as0 (wipeG Γ vs) M as (L2.wipe σ vs) H :=
  ⟨D.m, by rw [L2.wipe_length, wipeG_len]; exact D.len, fun i s e => by
    obtain ⟨h1, h2⟩ := wipeG_at e
    obtain ⟨v, e1, e2⟩ := D.loc i s h1
    exact ⟨v, by rw [wipe_at h2]; exact e1, e2⟩⟩
def NxtM (n : Nat) (P : Sto → Prop) : Sto → Prop := fun M => ∃ js M', Keep n js M M' ∧ P M'
theorem pick_pre {as as' : List Addr} {n : Nat} {js : List Nat} (h : as <+: as') (hn : as.length = n) : as <+: pick as' n js := by
  obtain ⟨t, rfl⟩ := h
  unfold pick
  subst hn
  rw [List.take_append_of_le_length (Nat.le_refl _), List.take_of_length_le (Nat.le_refl _)]
  exact List.prefix_append _ _
theorem wipe_set {σ : L2.St} {i : Nat} {v : Option V} : ∀ {vs : List Nat}, i ∈ vs → L2.wipe (σ.set i v) vs = L2.wipe σ vs
  | [], h => by cases h
  | w :: vs, h => by
    unfold L2.wipe
    by_cases e : i = w
    · subst e
      by_cases hm : i ∈ vs
      · rw [wipe_set hm]
      · clear h
        have : ∀ vs : List Nat, i ∉ vs → L2.wipe (σ.set i v) vs = (L2.wipe σ vs).set i v := fun vs => by
          induction vs with
          | nil => intro _; rfl
          | cons a vs ih =>
            intro hn
            simp only [List.mem_cons, not_or] at hn
            unfold L2.wipe
            rw [ih hn.2, List.set_comm _ _ hn.1]
        rw [this vs hm, List.set_set]
    · have hm : i ∈ vs := by
        rcases List.mem_cons.mp h with z | z
        · exact absurd z e
        · exact z
      rw [wipe_set hm]
/-- a target of a block takes s: the other slots stay -/
structure GW (c : Cs) (vs : List Nat) (Γ : Gm) (M : Sto) (tg : Expr) (s : S) (Γ' : Gm) : Prop where
  run : ∀ X H0 as0, OkE c X H0 as0 → ∀ as σ H v Q, Den c.K H0 as0 Γ M as σ H → SV c.K H as s v → (∀ σ', Den c.K H0 as0 Γ' M as σ' H → L2.wipe σ' vs = L2.wipe σ vs → Q σ' H) → tG X tg v σ H Q
structure GWs (c : Cs) (vs : List Nat) (Γ : Gm) (M : Sto) (tg : List Expr) (s : List S) (Γ' : Gm) : Prop where
  run : ∀ X H0 as0, OkE c X H0 as0 → ∀ as σ H v Q, Den c.K H0 as0 Γ M as σ H → SVs c.K H as s v → (∀ σ', Den c.K H0 as0 Γ' M as σ' H → L2.wipe σ' vs = L2.wipe σ vs → Q σ' H) → tGs X tg v σ H Q
section
variable {c : Cs} {Γ Γ' Γ1 Γ2 : Gm} {M M' M1 M2 M3 : Sto} {e a b tg iter elt : Expr} {r x y z s : S} {pos : Pos} {N : Nd} {ifs : List Expr} {scope : Scope} {own : List (Str × Nat)} {vs : List Nat}
theorem gw_name (i : Nat) {v : Str} (hm : i ∈ vs := by decide) (hi : c.N[i]? = some v := by rfl) (hl : Loc c.sc v := by first | exact Or.inl rfl | exact Or.inr rfl) (hf : c.own v = true ∨ c.sc.names.lookup v = some .local := by first | exact Or.inl rfl | exact Or.inr rfl) : GW c vs Γ M (.Name v pos) s (Γ.set i (some s)) := by
  constructor
  intro X H0 as0 o as σ H v Q D r k
  refine tG_of (pg_name (i := i) o.nd' (by rw [o.N]; exact hi) (by rw [o.sc]; exact hl) (fn_ok o hf)) ?_
  exact k _ (D.set r) (wipe_set hm)
theorem gws_nil : GWs c vs Γ M [] [] Γ := by
  constructor
  intro X H0 as0 o as σ H v Q D r k
  cases r
  exact tGs_of pgs_nil ⟨rfl, k σ D rfl⟩
theorem gws_cons {tgs : List Expr} {ss : List S} (h1 : GW c vs Γ M tg s Γ1) (h2 : GWs c vs Γ1 M tgs ss Γ2) (hs : ∀ env, (assignEach (tg :: tgs) env).map (·.2) = assign tg env :: (assignEach tgs env).map (·.2) := by intro _; rfl) : GWs c vs Γ M (tg :: tgs) (s :: ss) Γ2 := by
  constructor
  intro X H0 as0 o as σ H v Q D r k
  cases r with
  | cons a b =>
    refine tGs_of (pgs_cons (pG X tg) (pGs X tgs) (hs _)) ⟨_, _, rfl, ?_⟩
    refine h1.run X H0 as0 o as σ H _ _ D a fun σ1 D1 w1 => ?_
    exact h2.run X H0 as0 o as σ1 H _ _ D1 b fun σ2 D2 w2 => k σ2 D2 (w2.trans w1)
theorem gw_tup {es : List Expr} {k0 : Nat} {ss : List S} (hi : Items s ss) (h : GWs c vs Γ M es ss Γ1) (hn : ∀ env, (assignEach es env).length = ss.length := by intro _; rfl) (hst : ∀ env, (assignEach es env).findIdx? (·.1) = none := by intro _; rfl) : GW c vs Γ M (.Tuple es k0 pos) s Γ1 := by
  constructor
  intro X H0 as0 o as σ H v Q D r k
  obtain ⟨a, vs, rfl, e, f⟩ := hi.sv r
  refine tG_of (pg_tup o.calm (pGs X es) (hn _) (hst _)) ⟨a, vs, rfl, SqT.of e, f.length.symm, ?_⟩
  exact h.run X H0 as0 o as σ H _ _ D f k

/-- what is wanted of one turn: from the store at its start, by the item s -/
def Turn1 (c : Cs) (vs : List Nat) (Γ : Gm) (tg : Expr) (ifs : List Expr) (elt : Expr) (d : Nat) (s : S) (M : Sto) (P : Sto → Prop) : Prop :=
  ∃ Γ1, GW c vs (wipeG Γ vs) M tg s Γ1 ∧ ∃ q M2, EI c Γ1 M ifs q M2 ∧ (q = true → ∃ r M3, EX c Γ1 M2 elt r M3 ∧ ∃ acc, M3[d]? = some (.lst acc) ∧ acc.length < 1000000 ∧ NxtM M.length P (M3.set d (.lst (acc ++ [r])))) ∧ (q = false → NxtM M.length P M2)
theorem wipe_in {σ : L2.St} {i : Nat} : ∀ {vs : List Nat}, i ∈ vs → i < σ.length → (L2.wipe σ vs)[i]? = some none
  | [], h, _ => by cases h
  | v :: vs, h, hl => by
    unfold L2.wipe
    by_cases e : v = i
    · subst e
      exact List.getElem?_set_self (by rw [L2.wipe_length]; exact hl)
    · rw [List.getElem?_set_ne e]
      rcases List.mem_cons.mp h with z | z
      · exact absurd z.symm e
      · exact wipe_in z hl
theorem wipe_wipe (σ : L2.St) (vs : List Nat) : L2.wipe (L2.wipe σ vs) vs = L2.wipe σ vs := by
  refine List.ext_getElem? fun i => ?_
  by_cases hl : i < σ.length
  · by_cases h : i ∈ vs
    · rw [wipe_in h (by rw [L2.wipe_length]; exact hl), wipe_in h hl]
    · rw [wipe_at h]
  · rw [List.getElem?_eq_none (by rw [L2.wipe_length, L2.wipe_length]; omega), List.getElem?_eq_none (by rw [L2.wipe_length]; omega)]
theorem ei_run {X : Cx} {q : Bool} {H0 : Hp} {as0 : List Addr} (o : OkE c X H0 as0) (ok : BlkOk c.N c.sc scope own) (h : EI (cB c scope) Γ M ifs q M1) {as σ H} {Q : Bool → Hp → Prop} (d : Den c.K H0 as0 Γ M as σ H) (k : ∀ as' H', Le as H as' H' → DenM c.K H0 as0 M1 as' H' → Q q H') : tFm X scope ifs σ H Q := by
  rcases h with ⟨rfl, rfl, rfl⟩ | ⟨t, rfl, h⟩
  · exact k as H (Le.refl _ _) d.m
  · intro s0 H' C cl fp
    exact h.run _ H0 as0 (okB o ok s0 H' C cl fp) as σ H Q d k
/-- the reading's turns, by an invariant over the store -/
theorem lc_turns {n : Nat} {G : Sto → Prop} {it : Nat → S} {X : Cx} {H0 H1 : Hp} {as0 as1 : List Addr} {σ : L2.St} {J : It} {Qd : Addr → Hp → Prop} {D : Addr} (o : OkE c X H0 as0) (ok : BlkOk c.N c.sc scope own)
    (hif : ifs.length ≤ 1) (d : Den c.K H0 as0 Γ M1 as1 σ H1) (w : WalkD c.K H0 as0 J n as1 H1 G it) (hD : H1 D = none) (I : Nat → Sto → Prop) (h0 : I 0 (M1 ++ [.lst []])) (hG : ∀ k M, k ≤ n → I k M → G M)
    (hs : ∀ k M, k < n → I k M → Turn1 (cB c scope) (own.map (·.2)) Γ tg ifs elt M1.length (it k) M (I (k + 1)))
    (hd : ∀ M as2 H2, I n M → Le as1 H1 as2 H2 → DenM c.K H0 as0 M as2 H2 → as2[M1.length]? = some D → Qd D H2) :
    ∃ W : Nat → Nat → Hp → Prop, (∃ m, W 0 m (upd H1 D (.lst []))) ∧ ∀ i m H, W i m H → (J.stop i H ∧ Qd D H) ∨ (J.go i H ∧ ∃ Nx : Hp → Prop, (∀ H', Nx H' → ∃ m', m' < m ∧ W (i + 1) m' H') ∧ ∀ x H', J.yld i H x H' →
      tGm X scope tg x (L2.wipe σ (own.map (·.2))) H' fun σ2 H2 => L2.wipe σ2 (own.map (·.2)) = L2.wipe σ (own.map (·.2)) ∧ tFm X scope ifs σ2 H2 fun b H3 =>
          if b = true then tEm X scope elt σ2 H3 fun y H4 => ∃ acc, H4 D = some (.lst acc) ∧ acc.length < sizeLine ∧ Nx (upd H4 D (.lst (acc ++ [y]))) else Nx H3) := by
  have hl1 : as1.length = M1.length := d.m.len
  refine ⟨fun i m H' => m = n - i ∧ i ≤ n ∧ ∃ M2 as2, Le as1 H1 as2 H' ∧ DenM c.K H0 as0 M2 as2 H' ∧ I i M2 ∧ as2[M1.length]? = some D, ⟨n, by simp, Nat.zero_le _, M1 ++ [.lst []], as1 ++ [D], le_new hD, d.m.push hD no_lst (m := .lst []) ⟨[], upd_same, .nil⟩ no_oth, h0, by rw [← hl1, List.getElem?_append_right (Nat.le_refl _)]; simp⟩, ?_⟩
  rintro i m H2 ⟨rfl, hle, M2, as2, l2, d2, i2, eD⟩
  have g2 := hG i M2 hle i2
  by_cases hlt : i < n
  · refine .inr ⟨w.go i as2 H2 M2 hlt l2 d2 g2, fun H' => ∃ M3 as3, Le as1 H1 as3 H' ∧ DenM c.K H0 as0 M3 as3 H' ∧ I (i + 1) M3 ∧ as3[M1.length]? = some D, ?_, fun x H3 y => ?_⟩
    · rintro H' ⟨M3, as3, q⟩
      exact ⟨n - (i + 1), by omega, rfl, hlt, M3, as3, q⟩
    · obtain ⟨sm, sx⟩ := w.yld i as2 H2 M2 x H3 hlt l2 d2 g2 y
      obtain ⟨Γ1, gw, q, M3, ei, ht, hf⟩ := hs i M2 hlt i2
      have dw : Den c.K H0 as0 (wipeG Γ (own.map (·.2))) M2 as2 (L2.wipe σ (own.map (·.2))) H2 := (d.wipe _).next l2 d2
      have l3 : Le as2 H2 as2 H3 := .h (Same.tk sm)
      have dw3 := dw.next l3 (d2.grow sm)
      intro s0 H' C cl fp
      refine gw.run _ H0 as0 (okB o ok s0 H' C cl fp) as2 _ H3 x _ dw3 sx fun σ4 d4 w4 => ⟨w4.trans ?_, ?_⟩
      · exact wipe_wipe _ _
      refine ei_run o ok ei d4 fun as5 H5 l5 d5 => ?_
      have nxt : ∀ M6 as6 H6, NxtM M2.length (I (i + 1)) M6 → Le as5 H5 as6 H6 → DenM c.K H0 as0 M6 as6 H6 → ∃ M3 as3, Le as1 H1 as3 H6 ∧ DenM c.K H0 as0 M3 as3 H6 ∧ I (i + 1) M3 ∧ as3[M1.length]? = some D := by
        rintro M6 as6 H6 ⟨js, M7, kp, i7⟩ l6 d6
        have lt : Le as2 H2 as6 H6 := (l3.trans l5).trans l6
        have pp := pick_pre (js := js) lt.pre d2.len
        exact ⟨M7, _, ⟨l2.pre.trans pp, (l2.trans lt).tk⟩, d6.keep d2.le0 kp, i7, pre_get pp eD⟩
      cases q with
      | false =>
        rw [if_neg Bool.false_ne_true]
        exact nxt M3 as5 H5 (hf rfl) (Le.refl _ _) d5
      | true =>
        rw [if_pos rfl]
        obtain ⟨r, M4, ex, acc, e4, hlen, n4⟩ := ht rfl
        intro s1 H'' C1 cl1 fp1
        refine ex.run _ H0 as0 (okB o ok s1 H'' C1 cl1 fp1) as5 σ4 H5 _ (d4.next l5 d5) fun y as6 H6 l6 d6 s6 => ?_
        have eD6 : as6[M1.length]? = some D := pre_get ((l3.trans l5).trans l6).pre eD
        obtain ⟨vs, hv, sv⟩ := d6.mem _ _ _ e4 eD6
        refine ⟨vs, hv, by rw [← sv.length]; exact Nat.lt_of_lt_of_le hlen (by decide), ?_⟩
        have hk : M1.length < M4.length := (List.getElem?_eq_some_iff.mp e4).1
        have t : Tk H6 (upd H6 D (.lst (vs ++ [y]))) := Tk.mut hv (fun _ z => by cases z)
        exact nxt _ as6 _ n4 ⟨l6.pre, l6.tk.trans t⟩ (d6.write hk eD6 hv no_lst ⟨_, upd_same, (sv.app (.cons s6 .nil)).le (.h t)⟩ no_oth)
  · have e : i = n := by omega
    subst e
    exact .inl ⟨w.stop as2 H2 M2 l2 d2 g2, hd M2 as2 H2 i2 l2 d2 eD⟩
/-- [elt for tg in iter if ..] -/
theorem ex_lc {n : Nat} {G : Sto → Prop} {it : Nat → S} (own : List (Str × Nat)) (hi : IX c Γ M tg iter n G it M1) (I : Nat → Sto → Prop) (h0 : I 0 (M1 ++ [.lst []])) (hG : ∀ k M, k ≤ n → I k M → G M)
    (hs : ∀ k M, k < n → I k M → Turn1 (cB c scope) (own.map (·.2)) Γ tg ifs elt M1.length (it k) M (I (k + 1))) (hd : ∀ M, I n M → M = M2)
    (ok : blkC c.N c.sc scope own = true := by decide +kernel) (hif : ifs.length ≤ 1 := by decide) (hf : ∀ env x, foldedSetIterable iter env x = pure x := by intro _ _; rfl) : EX c Γ M (.ListComp elt [⟨tg, iter, ifs, 0⟩] scope pos) (.p M1.length) M2 := by
  constructor
  intro X H0 as0 o as σ H Q D k
  have ok' := blkOk_by ok
  refine tE_of (pe_lc o.calm o.nd' (pI X tg iter) (g := tGm X scope tg) (tt := tFm X scope ifs) (te := tEm X scope elt) (own := own) (by rw [o.N, o.sc]; exact ok') (fun s H C cl fp => ⟨fun pins s2 σ H v u Q I r h => h s _ C cl fp pins s2 u I r⟩) (pFm hif) (fun s H C cl fp => ⟨fun pins s2 σ H Q I h => h s _ C cl fp pins s2 I⟩) (hf _)) ?_
  refine hi.run X H0 as0 o as σ H _ D fun J as1 H1 l1 d1 w Dl hD => ?_
  exact lc_turns (Qd := fun D H2 => Q (.ref D) H2) o ok' hif (D.next l1 d1) w hD I h0 hG hs fun M3 as2 H2 i2 l2 d2 eD => k _ as2 H2 (l1.trans l2) (hd M3 i2 ▸ d2) (.p eD)
/-- name = [..] on one line -/
theorem sx_setLc {n : Nat} {G : Sto → Prop} {it : Nat → S} {spos py : Pos} {y : Str} (i : Nat) (own : List (Str × Nat)) (hi : IX c Γ M tg iter n G it M1) (I : Nat → Sto → Prop) (h0 : I 0 (M1 ++ [.lst []])) (hG : ∀ k M, k ≤ n → I k M → G M)
    (hs : ∀ k M, k < n → I k M → Turn1 (cB c scope) (own.map (·.2)) Γ tg ifs elt M1.length (it k) M (I (k + 1))) (hd : ∀ M, I n M → N.nx (Γ.set i (some (.p M1.length))) M)
    (hy : c.N[i]? = some y := by rfl) (hyl : c.sc.names.lookup y = some .local := by rfl) (hsw : ∀ env, env.scope = c.sc → swapsWith (.ListComp elt [⟨tg, iter, ifs, 0⟩] scope pos) (some (.Name y py)) spos.line env = pure true)
    (ok : blkC c.N c.sc scope own = true := by decide +kernel) (hif : ifs.length ≤ 1 := by decide) (hf : ∀ env x, foldedSetIterable iter env x = pure x := by intro _ _; rfl) : SX c Γ M (.Assign [.Name y py] (.ListComp elt [⟨tg, iter, ifs, 0⟩] scope pos) spos) N := by
  constructor
  intro X H0 as0 o as σ H D d f
  have ok' := blkOk_by ok
  refine tS_of (ps_setLc (i := i) o.calm o.nd' (by rw [o.N]; exact hy) (by rw [o.sc]; exact hyl) (hsw _ o.sc) (pI X tg iter) (g := tGm X scope tg) (tt := tFm X scope ifs) (te := tEm X scope elt) (own := own) (by rw [o.N, o.sc]; exact ok') (fun s H C cl fp => ⟨fun pins s2 σ H v u Q I r h => h s _ C cl fp pins s2 u I r⟩) (pFm hif) (fun s H C cl fp => ⟨fun pins s2 σ H Q I h => h s _ C cl fp pins s2 I⟩) (hf _)) ?_
  refine hi.run X H0 as0 o as σ H _ d fun J as1 H1 l1 d1 w Dl hD => ?_
  refine lc_turns (Qd := fun Dl H2 => D.nx (σ.set i (some (.ref Dl))) H2) o ok' hif (d.next l1 d1) w hD I h0 hG hs fun M3 as2 H2 i2 l2 d2 eD => ?_
  exact f.nx _ M3 as2 _ H2 (hd M3 i2) (l1.trans l2) ((d.next (l1.trans l2) d2).set (.p eD))
end
end DL

namespace DL
open PySem PySem.Spec PyProof.Rows L2

/-! ### built-ins -/
/-- names of built-ins that the module leaves alone -/
def Blt (m : Ms) (x : Str) : Prop := m.mg x = none
section
variable {c : Cs} {Γ : Gm} {M M' M1 M2 M3 : Sto} {e a b o : Expr} {es : List Expr} {r x y z s : S} {rs : List S} {pos p apos : Pos} {i j : Int} {k : Nat} {f : Str} {N : Nd}
theorem ex_callB {id : String} (hc : CS c (.builtin id) rs M1 r M2) (ha : EA c Γ M (e :: es) rs M1) (hm : c.mg f = none) (hv : bootBuiltins f = some (.builtin id)) (hg : c.sc.names.lookup f = some gI := by rfl) (hn : f ≠ "__name__" := by decide) (hdb : (f == ("__debug__" : Str)) = false := by decide)
    (he : ∀ env, starEach (e :: es) env = (false, eval e env) :: starEach es env := by intro _; rfl) (hpl : ∀ env, (backTo pos (starEach es env)).any (·.1) = false := by intro _; rfl) : EX c Γ M (.Call (.Name f p) (e :: es) [] pos) r M2 := by
  constructor
  intro X H0 as0 o as σ H Q D k
  obtain ⟨R, hR, hq⟩ := hc.run X H0 as0 o
  refine tE_of (pe_callB hR (gl_ok o hg) (by rw [o.mg]; exact hm) hv (pA X _) hn hdb (he _) (hpl _)) ?_
  refine ha.run X H0 as0 o as σ H _ D fun vs as1 H1 l1 D1 s1 => ?_
  exact hq as1 H1 vs Q D1 s1 fun z as2 H2 l2 D2 s2 => k z as2 H2 (l1.trans l2) D2 s2
theorem ex_callTy {id : String} (hc : CS c (.type id) rs M1 r M2) (ha : EA c Γ M (e :: es) rs M1) (hm : c.mg f = none) (hv : bootBuiltins f = some (.type id)) (hg : c.sc.names.lookup f = some gI := by rfl) (hn : f ≠ "__name__" := by decide) (hdb : (f == ("__debug__" : Str)) = false := by decide)
    (he : ∀ env, starEach (e :: es) env = (false, eval e env) :: starEach es env := by intro _; rfl) (hpl : ∀ env, (backTo pos (starEach es env)).any (·.1) = false := by intro _; rfl) : EX c Γ M (.Call (.Name f p) (e :: es) [] pos) r M2 := by
  constructor
  intro X H0 as0 o as σ H Q D k
  obtain ⟨R, hR, hq⟩ := hc.run X H0 as0 o
  refine tE_of (pe_callTy hR (gl_ok o hg) (by rw [o.mg]; exact hm) hv (pA X _) hn hdb (he _) (hpl _)) ?_
  refine ha.run X H0 as0 o as σ H _ D fun vs as1 H1 l1 D1 s1 => ?_
  exact hq as1 H1 vs Q D1 s1 fun z as2 H2 l2 D2 s2 => k z as2 H2 (l1.trans l2) D2 s2
theorem cs_of {g : Value} (R : Cx → List V → Hp → VK → Prop) (hR : ∀ X, OkX c X → CallR X g (R X))
    (hq : ∀ X H0 as0, OkE c X H0 as0 → ∀ as H vs (Q : VK), DenM c.K H0 as0 M as H → SVs c.K H as rs vs → (∀ z as' H', Le as H as' H' → DenM c.K H0 as0 M' as' H' → SV c.K H' as' r z → Q z H') → R X vs H Q) : CS c g rs M r M' :=
  ⟨fun X H0 as0 o => ⟨R X, hR X o, hq X H0 as0 o⟩⟩
/-- how many items -/
inductive Ln (M : Sto) : S → Nat → Prop
  | lst {k : Nat} {m : MO} {ss : List S} : M[k]? = some m → LItems m ss → Ln M (.p k) ss.length
  | tup {s : S} {ss : List S} : Items s ss → Ln M s ss.length
  | str {x : Str} : x.length ≤ 1000000 → Ln M (.d (.str x)) x.length
theorem sv1 {K : PySem.W.Frag} {H : Hp} {as : List Addr} {vs : List V} (h : SVs K H as [s] vs) : ∃ v, vs = [v] ∧ SV K H as s v := by
  cases h with
  | cons a b => cases b; exact ⟨_, rfl, a⟩
theorem sv2 {K : PySem.W.Frag} {H : Hp} {as : List Addr} {vs : List V} {t : S} (h : SVs K H as [s, t] vs) : ∃ v w, vs = [v, w] ∧ SV K H as s v ∧ SV K H as t w := by
  cases h with
  | cons a b =>
    obtain ⟨w, rfl, h⟩ := sv1 b
    exact ⟨_, w, rfl, a, h⟩
theorem cs_len {n : Nat} (h : Ln M s n) : CS c (.builtin "len") [s] M (.d (.int n)) M :=
  cs_of (fun X xs H Q => ∃ x n, xs = [x] ∧ LenV X.K x H n ∧ Q (.int n) H) (fun X o => call_len) fun X H0 as0 o as H vs Q D sv q => by
    obtain ⟨v, rfl, s1⟩ := sv1 sv
    refine ⟨v, n, rfl, ?_, q _ as H (Le.refl _ _) D (.d (.int _))⟩
    rw [o.K]
    cases h with
    | lst e1 e2 =>
      cases s1 with
      | p ea =>
        obtain ⟨us, h1, h2⟩ := e2.seq (D.mem _ _ _ e1 ea)
        exact .inl ⟨us, h1, h2.length⟩
    | tup e1 =>
      obtain ⟨a, us, rfl, h1, h2⟩ := e1.sv s1
      exact .inr ⟨us, SqT.of h1, h2.length⟩
    | str hl =>
      cases sv_str s1
      exact ⟨Nat.le_trans hl (by decide), rfl⟩
theorem cs_sum {ns : List Int} {m : MO} (hm : M[k]? = some m) (hl : LItems m (ns.map fun n => S.d (.int n))) : CS c (.builtin "sum") [.p k] M (.d (.int ns.sum)) M :=
  cs_of (fun X => rSum X.K) (fun X o => cr_sum o.calm) fun X H0 as0 o as H vs Q D sv q => by
    obtain ⟨v, rfl, s1⟩ := sv1 sv
    cases s1 with
    | p ea =>
      obtain ⟨us, h1, h2⟩ := hl.seq (D.mem _ _ _ hm ea)
      rw [o.K]
      have hu : us = ns.map V.int := by
        have : (ns.map fun n => S.d (.int n)) = (ns.map PyData.int).map S.d := by rw [List.map_map]; rfl
        rw [this] at h2
        exact (SVs.data h2).ints
      subst hu
      exact ⟨_, ns, rfl, h1, q _ as H (Le.refl _ _) D (.d (.int _))⟩
/-- list(x) of a list, a tuple -/
inductive Sq (M : Sto) : S → List S → Prop
  | lst {k : Nat} {m : MO} {ss : List S} : M[k]? = some m → LItems m ss → Sq M (.p k) ss
  | tup {s : S} {ss : List S} : Items s ss → Sq M s ss
theorem cs_list {ss : List S} (h : Sq M s ss) : CS c (.type "list") [s] M (.p M.length) (M ++ [.lst ss]) :=
  cs_of (fun X xs H Q => ∃ p ys, xs = [.ref p] ∧ (SqL X.K H p ys ∨ SqT X.K H p ys) ∧ ∀ l, H l = none → Q (.ref l) (upd H l (.lst ys))) (fun X o => call_list_of) fun X H0 as0 o as H vs Q D sv q => by
    obtain ⟨v, rfl, s1⟩ := sv1 sv
    rw [o.K]
    cases h with
    | lst e1 e2 =>
      cases s1 with
      | p ea =>
        obtain ⟨us, h1, h2⟩ := e2.seq (D.mem _ _ _ e1 ea)
        exact ⟨_, us, rfl, .inl h1, fun l hl => new_obj D hl no_lst (mok_lst hl h2) no_oth q⟩
    | tup e1 =>
      obtain ⟨a, us, rfl, h1, h2⟩ := e1.sv s1
      exact ⟨_, us, rfl, .inr (SqT.of h1), fun l hl => new_obj D hl no_lst (mok_lst hl h2) no_oth q⟩
/-- tuple(x) of a list -/
theorem cs_tuple {ss : List S} {m : MO} (hm : M[k]? = some m) (hl : LItems m ss) : CS c (.type "tuple") [.p k] M (mkT ss) M :=
  cs_of (fun X xs H Q => ∃ p ys, xs = [.ref p] ∧ ((SqL X.K H p ys ∧ ∀ l, H l = none → Q (.ref l) (upd H l (.tup ys))) ∨ (SqT X.K H p ys ∧ Q (.ref p) H))) (fun X o => call_tuple_of) fun X H0 as0 o as H vs Q D sv q => by
    obtain ⟨v, rfl, s1⟩ := sv1 sv
    rw [o.K]
    cases s1 with
    | p ea =>
      obtain ⟨us, h1, h2⟩ := hl.seq (D.mem _ _ _ hm ea)
      exact ⟨_, us, rfl, .inl ⟨h1, fun l hl => new_tup D hl h2 q⟩⟩

/-! ### methods -/
/-- a method of a built-in type on a value and arguments -/
structure MS (c : Cs) (id : String) (x : S) (xs : List S) (M : Sto) (r : S) (M' : Sto) : Prop where
  run : ∀ X H0 as0, OkE c X H0 as0 → ∃ R : V → List V → Hp → VK → Prop, MtM X id R ∧ ∀ as H u vs (Q : VK), DenM c.K H0 as0 M as H → SV c.K H as x u → SVs c.K H as xs vs → (∀ z as' H', Le as H as' H' → DenM c.K H0 as0 M' as' H' → SV c.K H' as' r z → Q z H') → R u vs H Q
theorem ms_append {xs : List S} (hk : M[k]? = some (.lst xs)) (hl : xs.length < 1000000) : MS c "list.append" (.p k) [s] M (.d .none) (M.set k (.lst (xs ++ [s]))) := ⟨fun X H0 as0 o => ⟨rAppend, mt_append, fun as H u vs Q D su sv q => by
  obtain ⟨v, rfl, s1⟩ := sv1 sv
  cases su with
  | p ea =>
    obtain ⟨us, h1, h2⟩ := D.mem _ _ _ hk ea
    have hk' : k < M.length := (List.getElem?_eq_some_iff.mp hk).1
    refine ⟨_, us, v, rfl, rfl, h1, by rw [← h2.length]; exact Nat.lt_of_lt_of_le hl (by decide), ?_⟩
    have t : ∀ o, Tk H (upd H _ o) := fun o => Tk.mut h1 (fun _ z => by cases z)
    exact q _ as _ (.h (t _)) (D.write hk' ea h1 no_lst ⟨_, upd_same, (h2.app (.cons s1 .nil)).le (.h (t _))⟩ no_oth) (.d .non)⟩⟩
theorem dropLast_sv {K : PySem.W.Frag} {H : Hp} {as : List Addr} {ss : List S} {vs : List V} (h : SVs K H as ss vs) : SVs K H as ss.dropLast vs.dropLast := by
  rw [List.dropLast_eq_take, List.dropLast_eq_take, h.length]
  exact h.take _
theorem ms_pop {xs : List S} (hk : M[k]? = some (.lst xs)) (hl : xs[xs.length - 1]? = some s) : MS c "list.pop" (.p k) [] M s (M.set k (.lst xs.dropLast)) := ⟨fun X H0 as0 o => ⟨rPop, mt_pop, fun as H u vs Q D su sv q => by
  cases sv
  cases su with
  | p ea =>
    obtain ⟨us, h1, h2⟩ := D.mem _ _ _ hk ea
    have hk' : k < M.length := (List.getElem?_eq_some_iff.mp hk).1
    obtain ⟨v, ev, sv⟩ := h2.at hl
    refine ⟨_, us, v, rfl, rfl, h1, by rw [← h2.length]; exact ev, ?_⟩
    have t : ∀ o, Tk H (upd H _ o) := fun o => Tk.mut h1 (fun _ z => by cases z)
    exact q _ as _ (.h (t _)) (D.write hk' ea h1 no_lst ⟨_, upd_same, (dropLast_sv h2).le (.h (t _))⟩ no_oth) (sv.le (.h (t _)))⟩⟩
theorem ms_popAt {xs : List S} {n : Nat} (hk : M[k]? = some (.lst xs)) (hi : i = (n : Int)) (hl : xs[n]? = some s) (hx : xs.length ≤ 1000000) : MS c "list.pop" (.p k) [.d (.int i)] M s (M.set k (.lst (xs.eraseIdx n))) := ⟨fun X H0 as0 o => ⟨rPopAt, mt_popAt, fun as H u vs Q D su sv q => by
  obtain ⟨v, rfl, s1⟩ := sv1 sv
  cases sv_int s1
  cases su with
  | p ea =>
    obtain ⟨us, h1, h2⟩ := D.mem _ _ _ hk ea
    have hk' : k < M.length := (List.getElem?_eq_some_iff.mp hk).1
    obtain ⟨w, ew, sw⟩ := h2.at hl
    have hn := (List.getElem?_eq_some_iff.mp hl).1
    have hl' := h2.length
    refine ⟨_, us, i, n, w, rfl, rfl, h1, by omega, by omega, ?_, ew, ?_⟩
    · have : ixN us.length i = some n := by
        unfold ixN
        rw [if_pos (by omega), if_pos (by omega)]
        congr 1
        omega
      exact (ixN_seq this).1
    have t : ∀ o, Tk H (upd H _ o) := fun o => Tk.mut h1 (fun _ z => by cases z)
    exact q _ as _ (.h (t _)) (D.write hk' ea h1 no_lst ⟨_, upd_same, (h2.erase n).le (.h (t _))⟩ no_oth) (sw.le (.h (t _)))⟩⟩
/-- the type of a method's object -/
inductive Tv (M : Sto) : S → String → Prop
  | lst {k : Nat} {m : MO} {ss : List S} : M[k]? = some m → LItems m ss → Tv M (.p k) "list"
  | str {x : Str} : Tv M (.d (.str x)) "str"
  | dk {k : Nat} {xs : List (Key × S)} : M[k]? = some (.dk xs) → Tv M (.p k) "dict"
  | dt {k : Nat} {xs : List (List Key × S)} : M[k]? = some (.dt xs) → Tv M (.p k) "dict"
theorem Tv.ty {K : PySem.W.Frag} {H0 H : Hp} {as0 as : List Addr} {T : String} {v : V} (h : Tv M s T) (D : DenM K H0 as0 M as H) (r : SV K H as s v) : tyV K T v H := by
  cases h with
  | lst e1 e2 => cases r with | p ea => obtain ⟨us, h1, _⟩ := e2.seq (D.mem _ _ _ e1 ea); exact .inl ⟨rfl, us, h1⟩
  | str => cases sv_str r; exact rfl
  | dk e1 => cases r with | p ea => obtain ⟨us, h1, _⟩ := D.mem _ _ _ e1 ea; exact .inr (.inr (.inl ⟨rfl, .inl ⟨us, h1⟩⟩))
  | dt e1 => cases r with | p ea => obtain ⟨us, h1, _⟩ := D.mem _ _ _ e1 ea; exact .inr (.inr (.inl ⟨rfl, .inr ⟨us, h1⟩⟩))
theorem ex_meth {T : String} {m : Str} {id : String} (pa : PlainAttrs T) (slot : Slot T m id) (hty : typeOf (.builtin id) = pure (.type "method_descriptor")) (ho : EX c Γ M o x M1) (ht : Tv M1 x T) (ha : EA c Γ M1 (e :: es) rs M2) (hm : MS c id x rs M2 r M3)
    (hbase : ∀ env, attributeBase o m env (eval o env) = eval o env := by intro _; rfl)
    (hfew : ∀ env, ((backTo pos (starEach (e :: es) env)).all (fun x => !x.1) && (backToKw pos (keywordEach [] env)).all (fun x => x.1.isSome)
      && decide ((e :: es).length + ([] : List Keyword).length + (if ([] : List Keyword).isEmpty then 0 else 1) < 30)) = true := by intro _; rfl)
    (hline : (apos.endLine == pos.line) = true := by rfl) (he : ∀ env, starEach (e :: es) env = (false, eval e env) :: starEach es env := by intro _; rfl) (hpl : ∀ env, (backTo pos (starEach es env)).any (·.1) = false := by intro _; rfl) :
    EX c Γ M (.Call (.Attribute o m apos) (e :: es) [] pos) r M3 := by
  constructor
  intro X H0 as0 oo as σ H Q D k
  obtain ⟨R, hR, hq⟩ := hm.run X H0 as0 oo
  refine tE_of (pe_bm pa slot hty hR (pE X o) (pA X _) (hbase _) (hfew _) hline (he _) (hpl _)) ?_
  refine ho.run X H0 as0 oo as σ H _ D fun v as1 H1 l1 D1 s1 => ⟨by rw [oo.K]; exact ht.ty D1 s1, ?_⟩
  refine ha.run X H0 as0 oo as1 σ H1 _ (D.next l1 D1) fun vs as2 H2 l2 D2 s2 => ?_
  exact hq as2 H2 v vs Q D2 (s1.le l2) s2 fun z as3 H3 l3 D3 s3 => k z as3 H3 ((l1.trans l2).trans l3) D3 s3
theorem ex_meth0 {T : String} {m : Str} {id : String} (pa : PlainAttrs T) (slot : Slot T m id) (hty : typeOf (.builtin id) = pure (.type "method_descriptor")) (ho : EX c Γ M o x M1) (ht : Tv M1 x T) (hm : MS c id x [] M1 r M3)
    (hbase : ∀ env, attributeBase o m env (eval o env) = eval o env := by intro _; rfl) (hline : (apos.endLine == pos.line) = true := by rfl) : EX c Γ M (.Call (.Attribute o m apos) [] [] pos) r M3 := by
  constructor
  intro X H0 as0 oo as σ H Q D k
  obtain ⟨R, hR, hq⟩ := hm.run X H0 as0 oo
  refine tE_of (pe_bm0 pa slot hty hR (pE X o) (hbase _) hline) ?_
  refine ho.run X H0 as0 oo as σ H _ D fun v as1 H1 l1 D1 s1 => ⟨by rw [oo.K]; exact ht.ty D1 s1, ?_⟩
  exact hq as1 H1 v [] Q D1 s1 .nil fun z as3 H3 l3 D3 s3 => k z as3 H3 (l1.trans l3) D3 s3
theorem ex_append {xs : List S} (ho : EX c Γ M o (.p k) M1) (ha : EX c Γ M1 e s M2) (h1 : M1[k]? = some (.lst xs)) {ys : List S} (h2 : M2[k]? = some (.lst ys)) (hl : ys.length < 1000000) (hbase : ∀ env, attributeBase o "append" env (eval o env) = eval o env := by intro _; rfl)
    (hfew : ∀ env, ((backTo pos (starEach [e] env)).all (fun x => !x.1) && (backToKw pos (keywordEach [] env)).all (fun x => x.1.isSome) && decide (([e] : List Expr).length + ([] : List Keyword).length + (if ([] : List Keyword).isEmpty then 0 else 1) < 30)) = true := by intro _; rfl)
    (hline : (apos.endLine == pos.line) = true := by rfl) (he : ∀ env, starEach [e] env = (false, eval e env) :: starEach [] env := by intro _; rfl) : EX c Γ M (.Call (.Attribute o "append" apos) [e] [] pos) (.d .none) (M2.set k (.lst (ys ++ [s]))) :=
  ex_meth PySem.F.plainAttrs_list PySem.F.slot_list_append PySem.F.type_list_append ho (.lst h1 (show xs = xs from rfl)) (ea_cons ha ea_nil he) (ms_append h2 hl) hbase hfew hline he (fun _ => rfl)
theorem ex_pop {xs : List S} (ho : EX c Γ M o (.p k) M1) (h1 : M1[k]? = some (.lst xs)) (hl : xs[xs.length - 1]? = some s) (hbase : ∀ env, attributeBase o "pop" env (eval o env) = eval o env := by intro _; rfl)
    (hline : (apos.endLine == pos.line) = true := by rfl) : EX c Γ M (.Call (.Attribute o "pop" apos) [] [] pos) s (M1.set k (.lst xs.dropLast)) :=
  ex_meth0 PySem.F.plainAttrs_list PySem.F.slot_list_pop PySem.F.type_list_pop ho (.lst h1 (show xs = xs from rfl)) (ms_pop h1 hl) hbase hline
theorem ex_popAt {xs ys : List S} {n : Nat} (ho : EX c Γ M o (.p k) M1) (ha : EX c Γ M1 e (.d (.int i)) M2) (h1 : M1[k]? = some (.lst xs)) (h2 : M2[k]? = some (.lst ys)) (hi : i = (n : Int)) (hl : ys[n]? = some s) (hx : ys.length ≤ 1000000) (hbase : ∀ env, attributeBase o "pop" env (eval o env) = eval o env := by intro _; rfl)
    (hfew : ∀ env, ((backTo pos (starEach [e] env)).all (fun x => !x.1) && (backToKw pos (keywordEach [] env)).all (fun x => x.1.isSome) && decide (([e] : List Expr).length + ([] : List Keyword).length + (if ([] : List Keyword).isEmpty then 0 else 1) < 30)) = true := by intro _; rfl)
    (hline : (apos.endLine == pos.line) = true := by rfl) (he : ∀ env, starEach [e] env = (false, eval e env) :: starEach [] env := by intro _; rfl) : EX c Γ M (.Call (.Attribute o "pop" apos) [e] [] pos) s (M2.set k (.lst (ys.eraseIdx n))) :=
  ex_meth PySem.F.plainAttrs_list PySem.F.slot_list_pop PySem.F.type_list_pop ho (.lst h1 (show xs = xs from rfl)) (ea_cons ha ea_nil he) (ms_popAt h2 hi hl hx) hbase hfew hline he (fun _ => rfl)

/-! ### dicts -/
/-- a value is a key -/
def isKey : S → Key → Prop
  | .d (.int i), k => k = .inl i
  | .d (.str x), k => k = .inr x
  | _, _ => False
theorem isKey.kv {K : PySem.W.Frag} {H : Hp} {as : List Addr} {v : V} {q : Key} (h : isKey s q) (r : SV K H as s v) : v = kV q := by
  cases r with
  | d r =>
    cases r with
    | int i => cases (show q = _ from h); rfl
    | str x => cases (show q = _ from h); rfl
    | _ => exact h.elim
  | _ => exact h.elim
variable {κ : Type} [DecidableEq κ]
def sval (kvs : List (κ × S)) (k : κ) : Option S := (kvs.find? fun kv => decide (kv.1 = k)).map (·.2)
def sput (kvs : List (κ × S)) (k : κ) (v : S) : List (κ × S) :=
  if (kvs.any fun kv => decide (kv.1 = k)) = true then kvs.map (fun kv => if kv.1 = k then (kv.1, v) else kv) else kvs ++ [(k, v)]
theorem ksv_val {K : PySem.W.Frag} {H : Hp} {as : List Addr} {q : κ} : ∀ {ks : List (κ × S)} {vs : List (κ × V)}, KSV K H as ks vs → (∀ s, sval ks q = some s → ∃ v, valV vs q = some v ∧ SV K H as s v) ∧ (sval ks q = none → valV vs q = none)
  | _, _, .nil => ⟨fun s h => by simp [sval] at h, fun _ => rfl⟩
  | (k1, s1) :: ks, (k2, v2) :: vs, .cons h t => by
    obtain ⟨e, r⟩ := h
    cases (show k1 = k2 from e)
    have ih := ksv_val (q := q) t
    by_cases hk : k1 = q
    · refine ⟨fun s h => ?_, fun h => ?_⟩
      · simp [sval, List.find?_cons, hk] at h
        subst h
        exact ⟨v2, valV_pos hk, r⟩
      · simp [sval, List.find?_cons, hk] at h
    · have e1 : sval ((k1, s1) :: ks) q = sval ks q := by simp [sval, List.find?_cons, hk]
      rw [e1, valV_neg (p := (k1, v2)) hk]
      exact ih
theorem ksv_any {K : PySem.W.Frag} {H : Hp} {as : List Addr} {q : κ} : ∀ {ks : List (κ × S)} {vs : List (κ × V)}, KSV K H as ks vs → (ks.any fun kv => decide (kv.1 = q)) = (vs.any fun kv => decide (kv.1 = q))
  | _, _, .nil => rfl
  | (k1, s1) :: ks, (k2, v2) :: vs, .cons h t => by
    cases (show k1 = k2 from h.1)
    rw [List.any_cons, List.any_cons, ksv_any t]
theorem ksv_put {K : PySem.W.Frag} {H : Hp} {as : List Addr} {q : κ} {v : V} {ks : List (κ × S)} {vs : List (κ × V)} (h : KSV K H as ks vs) (r : SV K H as s v) : KSV K H as (sput ks q s) (putK vs q v) := by
  unfold sput putK
  rw [ksv_any h]
  split
  · have : ∀ {ks : List (κ × S)} {vs : List (κ × V)}, KSV K H as ks vs → KSV K H as (ks.map fun kv => if kv.1 = q then (kv.1, s) else kv) (vs.map fun kv => if kv.1 = q then (kv.1, v) else kv) := by
      intro ks vs h
      induction h with
      | nil => exact .nil
      | cons a b ih =>
        rw [List.map_cons, List.map_cons]
        refine .cons ?_ ih
        rename_i p1 p2 _ _
        obtain ⟨e, r2⟩ := a
        by_cases hk : p1.1 = q
        · rw [if_pos hk, if_pos (e ▸ hk)]
          exact ⟨e, r⟩
        · rw [if_neg hk, if_neg (fun z => hk (e.trans z))]
          exact ⟨e, r2⟩
    exact this h
  · exact Paired.app h (.cons ⟨rfl, r⟩ .nil)
/-- d[k] -/
theorem ex_dget {kvs : List (Key × S)} {q : Key} (ha : EX c Γ M a (.p k) M1) (hb : EX c Γ M1 b y M2) (hk : M2[k]? = some (.dk kvs)) (hy : isKey y q) (hv : sval kvs q = some s) (hs : NoSl b := by exact fun _ _ => rfl) : EX c Γ M (.Subscript a b pos) s M2 := by
  constructor
  intro X H0 as0 o as σ H Q D w
  refine tE_of (pe_dget (hu_of o.room) (pE X a) (pE X b) hs) ?_
  refine ha.run X H0 as0 o as σ H _ D fun u as1 H1 l1 D1 s1 => ?_
  refine hb.run X H0 as0 o as1 σ H1 _ (D.next l1 D1) fun v as2 H2 l2 D2 s2 => ?_
  cases s1 with
  | p ea =>
    obtain ⟨vs, h1, h2⟩ := D2.mem _ _ _ hk (pre_get l2.pre ea)
    obtain ⟨v', e1, e2⟩ := (ksv_val h2).1 s hv
    refine ⟨_, v', rfl, ?_, w v' as2 H2 (l1.trans l2) D2 e2⟩
    rw [hy.kv s2, ← e1]
    exact DGet.k h1
/-- d[k] = v -/
theorem sx_dput {kvs : List (Key × S)} {q : Key} {pos' : Pos} (hv : EX c Γ M e s M1) (ha : EX c Γ M1 a (.p k) M2) (hb : EX c Γ M2 b y M3) (hk : M3[k]? = some (.dk kvs)) (hy : isKey y q) (hl : kvs.length < 1000000) (hq : N.nx Γ (M3.set k (.dk (sput kvs q s))))
    (hs : ∀ env, env.scope = c.sc → swapsWith e (some (.Subscript a b pos')) pos.line env = pure false := by intro _ _; rfl) : SX c Γ M (.Assign [.Subscript a b pos'] e pos) N := by
  constructor
  intro X H0 as0 o as σ H D d f
  refine tS_of (ps_dput (hu_of o.room) (pE X a) (pE X b) (pE X e) (hs _ o.sc)) ?_
  refine hv.run X H0 as0 o as σ H _ d fun v as1 H1 l1 D1 s1 => ?_
  refine ha.run X H0 as0 o as1 σ H1 _ (d.next l1 D1) fun u as2 H2 l2 D2 s2 => ?_
  refine hb.run X H0 as0 o as2 σ H2 _ (d.next (l1.trans l2) D2) fun w as3 H3 l3 D3 s3 => ?_
  cases s2 with
  | p ea =>
    have ea3 := pre_get l3.pre ea
    obtain ⟨vs, h1, h2⟩ := D3.mem _ _ _ hk ea3
    have hk' : k < M3.length := (List.getElem?_eq_some_iff.mp hk).1
    have hlen : vs.length < sizeLine := by
      have : kvs.length = vs.length := Paired.length h2
      rw [← this]
      exact Nat.lt_of_lt_of_le hl (by decide)
    rw [hy.kv s3]
    refine ⟨_, _, rfl, DPut.k h1 hlen, ?_⟩
    have t : ∀ o, Tk H3 (upd H3 _ o) := fun o => Tk.mut h1 (fun _ z => by cases z)
    have lx : Le as H as3 (upd H3 _ (.dK (putK vs q v))) := ((l1.trans l2).trans l3).trans (.h (t _))
    exact f.nx _ _ as3 σ _ hq lx (d.next lx (D3.write hk' ea3 h1 (fun _ z => by cases z) ⟨_, upd_same, KSV.le (.h (t _)) (ksv_put h2 (s1.le (l2.trans l3)))⟩ (fun _ z => by cases z)))
end
end DL

namespace DL
open PySem PySem.Spec PyProof.Rows L2
section
variable {c : Cs} {Γ : Gm} {M M' M1 M2 M3 : Sto} {e a b o tg iter : Expr} {es : List Expr} {r x y z s : S} {rs : List S} {pos p apos : Pos} {i j : Int} {k : Nat} {f : Str} {N : Nd}
/-! ### a written dict -/
def tP (X : Cx) (pos : Pos) (ks : List (Option Expr)) (vs : List Expr) : List (TE × TE) := List.zipWith (fun k v => (match k with | some k => tE X k | none => fun _ _ _ => False, tE X v)) ks vs
theorem pP (X : Cx) (pos : Pos) : ∀ (ks : List (Option Expr)) (vs : List Expr), ks.length = vs.length → ks.all (·.isSome) = true → PPs X pos ks vs (tP X pos ks vs)
  | [], [], _, _ => pps_nil
  | some k :: ks, v :: vs, h, g => pps_cons (pE X k) (pE X v) (pP X pos ks vs (by simpa using h) (by simpa using g))
  | none :: ks, v :: vs, _, g => by simp at g
  | [], _ :: _, h, _ => by simp at h
  | _ :: _, [], h, _ => by simp at h
/-- the pairs, from the left -/
inductive EPs (c : Cs) (Γ : Gm) : Sto → List (Option Expr) → List Expr → List (Key × S) → Sto → Prop
  | nil {M : Sto} : EPs c Γ M [] [] [] M
  | cons {M M1 M2 M3 : Sto} {k v : Expr} {ks : List (Option Expr)} {vs : List Expr} {x y : S} {q : Key} {kvs : List (Key × S)} : EX c Γ M k x M1 → isKey x q → EX c Γ M1 v y M2 → EPs c Γ M2 ks vs kvs M3 → EPs c Γ M (some k :: ks) (v :: vs) ((q, y) :: kvs) M3
theorem EPs.len {ks : List (Option Expr)} {vs : List Expr} {kvs : List (Key × S)} (h : EPs c Γ M ks vs kvs M1) : ks.length = vs.length ∧ kvs.length = ks.length ∧ ks.all (·.isSome) = true := by
  induction h with
  | nil => exact ⟨rfl, rfl, rfl⟩
  | cons _ _ _ _ ih => exact ⟨by simp [ih.1], by simp [ih.2.1], by simpa using ih.2.2⟩
theorem EPs.run {ks : List (Option Expr)} {vs : List Expr} {kvs : List (Key × S)} (h : EPs c Γ M ks vs kvs M1) {X : Cx} {H0 as0 as σ H} (o : OkE c X H0 as0) (D : Den c.K H0 as0 Γ M as σ H) {Q : List (V × V) → Hp → Prop}
    (k : ∀ ws as' H', Le as H as' H' → DenM c.K H0 as0 M1 as' H' → KSV c.K H' as' kvs ws → Q (ws.map fun kv => (kV kv.1, kv.2)) H') : tPairs (tP X pos ks vs) σ H Q := by
  induction h generalizing as H Q with
  | nil => exact k [] as H (Le.refl _ _) D.m .nil
  | cons h1 hq h2 _ ih =>
    show tE X _ σ H _
    refine h1.run X H0 as0 o as σ H _ D fun u as1 H1 l1 D1 s1 => ?_
    refine h2.run X H0 as0 o as1 σ H1 _ (D.next l1 D1) fun v as2 H2 l2 D2 s2 => ?_
    refine ih (D.next (l1.trans l2) D2) fun ws as3 H3 l3 D3 sv => ?_
    rw [hq.kv s1]
    exact k ((_, v) :: ws) as3 H3 ((l1.trans l2).trans l3) D3 (.cons ⟨rfl, s2.le l3⟩ sv)
def smerge (kvs more : List (Key × S)) : List (Key × S) := more.foldl (fun acc kv => sput acc kv.1 kv.2) kvs
theorem ksv_merge {K : PySem.W.Frag} {H : Hp} {as : List Addr} : ∀ {more : List (Key × S)} {ms : List (Key × V)} {ks : List (Key × S)} {vs : List (Key × V)}, KSV K H as more ms → KSV K H as ks vs → KSV K H as (smerge ks more) (mergeK vs ms)
  | _, _, _, _, .nil, h => h
  | (k1, s1) :: more, (k2, v2) :: ms, _, _, .cons a b, h => by
    obtain ⟨e, r⟩ := a
    cases (show k1 = k2 from e)
    show KSV K H as (smerge (sput _ k1 s1) more) (mergeK (putK _ k1 v2) ms)
    exact ksv_merge b (ksv_put h r)
theorem ex_disp {ks : List (Option Expr)} {vs : List Expr} {kvs : List (Key × S)} (h : EPs c Γ (M ++ [.dk []]) ks vs kvs M1) (h0 : M1[M.length]? = some (.dk [])) (hne : ks ≠ [] := by simp) (h15 : ks.length ≤ 15 := by decide) : EX c Γ M (.Dict ks vs pos) (.p M.length) (M1.set M.length (.dk (smerge [] kvs))) := by
  constructor
  intro X H0 as0 o as σ H Q D k
  refine tE_of (pe_disp (pP X pos ks vs h.len.1 h.len.2.2) h.len.2.2 h.len.1 hne h15) ?_
  intro p hp
  have D1 := D.m.push hp (o := .dK []) (m := .dk []) (fun _ z => by cases z) ⟨[], upd_same, .nil⟩ (fun _ z => by cases z)
  have l1 := le_new (as := as) (o := .dK []) hp
  refine h.run o (D.next l1 D1) fun ws as2 H2 l2 D2 sv => ?_
  have ea : as2[M.length]? = some p := pre_get l2.pre (by rw [← D.m.len, List.getElem?_append_right (Nat.le_refl _)]; simp)
  obtain ⟨vs0, e0, r0⟩ := D2.mem _ _ _ h0 ea
  cases r0
  refine ⟨e0, ws, rfl, ?_, ?_⟩
  · have : kvs.length = ws.length := Paired.length sv
    rw [← this, h.len.2.1]
    exact h15
  · have t : ∀ o, Tk H2 (upd H2 p o) := fun o => Tk.mut e0 (fun _ z => by cases z)
    have hk : M.length < M1.length := (List.getElem?_eq_some_iff.mp h0).1
    exact k _ as2 _ ((l1.trans l2).trans (.h (t _))) (D2.write hk ea e0 (fun _ z => by cases z) ⟨_, upd_same, KSV.le (.h (t _)) (ksv_merge sv .nil)⟩ (fun _ z => by cases z)) (.p ea)

/-! ### slices -/
/-- a bound of a slice -/
def EO (c : Cs) (Γ : Gm) (M : Sto) (e : Option Expr) (n : Option Int) (M' : Sto) : Prop := (e = none ∧ n = none ∧ M' = M) ∨ ∃ e' i, e = some e' ∧ n = some i ∧ EX c Γ M e' (.d (.int i)) M'
theorem eo_none : EO c Γ M none none M := .inl ⟨rfl, rfl, rfl⟩
theorem eo_some (h : EX c Γ M e (.d (.int i)) M1) : EO c Γ M (some e) (some i) M1 := .inr ⟨e, i, rfl, rfl, h⟩
def tO (X : Cx) : Option Expr → TO
  | none => tNoPart
  | some e => tPart (tE X e)
theorem pO (X : Cx) : ∀ e, PO X e (tO X e)
  | none => po_none
  | some e => po_some (pE X e)
theorem EO.run {e : Option Expr} {n : Option Int} (h : EO c Γ M e n M1) {X : Cx} {H0 as0 as σ H} (o : OkE c X H0 as0) (D : Den c.K H0 as0 Γ M as σ H) {Q : Option Int → Hp → Prop} (k : ∀ as' H', Le as H as' H' → DenM c.K H0 as0 M1 as' H' → Q n H') : tO X e σ H Q := by
  rcases h with ⟨rfl, rfl, rfl⟩ | ⟨e', i, rfl, rfl, h⟩
  · exact k as H (Le.refl _ _) D.m
  · refine h.run X H0 as0 o as σ H _ D fun v as1 H1 l1 D1 s1 => ?_
    cases sv_int s1
    exact ⟨i, rfl, k as1 H1 l1 D1⟩
def cutS (xs : List S) (lo hi : Option Int) : List S := (xs.drop (HT.sIx xs.length 0 lo)).take (HT.sIx xs.length xs.length hi - HT.sIx xs.length 0 lo)
theorem cut_sv {K : PySem.W.Frag} {H : Hp} {as : List Addr} {ss : List S} {vs : List V} {lo hi : Option Int} (h : SVs K H as ss vs) : SVs K H as (cutS ss lo hi) (cutV vs lo hi) := by
  unfold cutS cutV
  rw [h.length]
  exact (h.drop _).take _
/-- a list's slice -/
theorem ex_slL {m : MO} {ss : List S} {lo hi : Option Expr} {l h : Option Int} {p2 : Pos} {M4 : Sto} (ha : EX c Γ M a (.p k) M1) (hl : EO c Γ M1 lo l M2) (hh : EO c Γ M2 hi h M3) (hm : M3[k]? = some m) (hi' : LItems m ss) (e4 : M4 = M3 ++ [.lst (cutS ss l h)]) (e5 : r = .p M3.length) : EX c Γ M (.Subscript a (.Slice lo hi none p2) pos) r M4 := by
  constructor
  intro X H0 as0 o as σ H Q D w
  refine tE_of (pe_slice sl_list (pE X a) (pO X lo) (pO X hi)) ?_
  refine ha.run X H0 as0 o as σ H _ D fun u as1 H1 l1 D1 s1 => ?_
  refine hl.run o (D.next l1 D1) fun as2 H2 l2 D2 => ?_
  refine hh.run o (D.next (l1.trans l2) D2) fun as3 H3 l3 D3 => ?_
  subst e4 e5
  cases s1 with
  | p ea =>
    obtain ⟨vs, h1, h2⟩ := hi'.seq (D3.mem _ _ _ hm (pre_get (l2.trans l3).pre ea))
    rw [o.K]
    exact ⟨_, vs, rfl, h1, fun p hp => new_obj D3 hp no_lst (mok_lst hp (cut_sv h2)) no_oth fun z as4 H4 l4 D4 s4 => w z as4 H4 (((l1.trans l2).trans l3).trans l4) D4 s4⟩

/-! ### enumerate -/
theorem ix_enum {args : Expr} {k0 : Nat} {elts : List Expr} {tpos : Pos} {m : MO} {ss : List S} (he : EX c Γ M args (.p k) M1) (hm : M1[k]? = some m) (hl : LItems m ss) (hmg : c.mg ("enumerate" : Str) = none) (hg : c.sc.names.lookup ("enumerate" : Str) = some gI := by rfl) (hs : ∀ env, starEach [args] env = [(false, eval args env)] := by intro _; rfl) :
    IX c Γ M (.Tuple elts k0 tpos) (.Call (.Name "enumerate" p) [args] [] pos) ss.length (fun M => ∃ m, M[k]? = some m ∧ LItems m ss) (fun i => mkT [.d (.int (i : Nat)), ss.getD i (.d .none)]) M1 := by
  constructor
  intro X H0 as0 o as σ H R D q
  refine tI_of (pi_enum (gl_ok o hg) (by rw [o.mg]; exact hmg) (pA X [args]) (hs _)) ?_
  refine (ea_cons he ea_nil (fun env => by rw [hs]; rfl)).run X H0 as0 o as σ H _ D fun vs as1 H1 l1 D1 s1 => ?_
  obtain ⟨v, rfl, s2⟩ := sv1 s1
  cases s2 with
  | p ea =>
    rename_i a0
    obtain ⟨us, h1, h2⟩ := hl.seq (D1.mem _ _ _ hm ea)
    rw [o.K]
    refine ⟨a0, us, rfl, h1, q _ as1 H1 l1 D1 ⟨fun i as2 H2 M2 hi p2 D2 ⟨m2, e2, g2⟩ => ?_, fun i as2 H2 M2 x H3 hi p2 D2 ⟨m2, e2, g2⟩ y => ?_, fun as2 H2 M2 p2 D2 ⟨m2, e2, g2⟩ => ?_⟩⟩
    · obtain ⟨ws, hw, sw⟩ := g2.seq (D2.mem _ _ _ e2 (pre_get p2.pre ea))
      obtain ⟨v, ev, _⟩ := sw.at (List.getElem?_eq_getElem hi)
      exact ⟨ws, v, hw, ev⟩
    · obtain ⟨ws, hw, sw⟩ := g2.seq (D2.mem _ _ _ e2 (pre_get p2.pre ea))
      obtain ⟨T, w, rfl, hT, rfl, hy⟩ := y
      obtain ⟨v, ev, sv⟩ := sw.at (List.getElem?_eq_getElem hi)
      have ex := hy ws hw
      rw [ev] at ex
      cases ex
      refine ⟨Same.new hT, mkT_sv (.cons (.d (.int _)) (.cons ?_ .nil)) upd_same⟩
      have : SV c.K H2 as2 (ss.getD i (.d .none)) w := by simpa [List.getD, List.getElem?_eq_getElem hi] using sv
      exact this.le (.h (Same.tk (Same.new hT)))
    · obtain ⟨ws, hw, sw⟩ := g2.seq (D2.mem _ _ _ e2 (pre_get p2.pre ea))
      exact ⟨ws, hw, Nat.le_of_eq sw.length.symm⟩
end
end DL

namespace DL
open PySem PySem.Spec PyProof.Rows L2
/-! ### ends of bodies -/
theorem keep0 (M : Sto) : Keep 0 [] M [] := ⟨rfl, List.nodup_nil, fun _ h => (by cases h), Nat.zero_le _, fun _ _ h => absurd h (Nat.not_lt_zero _), fun i j m h => (by simp at h)⟩
theorem fin0 {x : PyData} {M : Sto} : Fin 0 (.d x) M (.d x) [] := ⟨[], keep0 M, .d x⟩
/-- pointer-free -/
inductive Fr : S → Prop
  | d (x : PyData) : Fr (.d x)
  | v (u : V) : Fr (.v u)
  | t {xs : List S} : (∀ x ∈ xs, Fr x) → Fr (.t xs)
inductive FrM : MO → Prop
  | lst {xs : List S} : (∀ x ∈ xs, Fr x) → FrM (.lst xs)
  | rl {xs : List S} : (∀ x ∈ xs, Fr x) → FrM (.rl xs)
  | dk {xs : List (Key × S)} : (∀ x ∈ xs, Fr x.2) → FrM (.dk xs)
  | dt {xs : List (List Key × S)} : (∀ x ∈ xs, Fr x.2) → FrM (.dt xs)
  | ins {C : Addr} {xs : List (Str × S)} : (∀ x ∈ xs, Fr x.2) → FrM (.ins C xs)
  | xd {xs : List (Str × S)} : (∀ x ∈ xs, Fr x.2) → FrM (.xd xs)
  | oth (φ : Hp → Addr → Prop) : FrM (.oth φ)
theorem rens_of {ρ : Nat → Option Nat} : ∀ {xs : List S}, (∀ x ∈ xs, Ren ρ x x) → Rens ρ xs xs
  | [], _ => .nil
  | x :: xs, h => .cons (h x List.mem_cons_self) (rens_of fun y hy => h y (List.mem_cons_of_mem _ hy))
theorem Fr.ren (ρ : Nat → Option Nat) {x : S} (h : Fr x) : Ren ρ x x := by
  induction h with
  | d x => exact .d x
  | v u => exact .v u
  | t h ih => exact .t (rens_of ih)
theorem pair_of {κ : Type} {ρ : Nat → Option Nat} : ∀ {xs : List (κ × S)}, (∀ x ∈ xs, Fr x.2) → Paired (fun p q => p.1 = q.1 ∧ Ren ρ p.2 q.2) xs xs
  | [], _ => .nil
  | x :: xs, h => .cons ⟨rfl, (h x List.mem_cons_self).ren ρ⟩ (pair_of fun y hy => h y (List.mem_cons_of_mem _ hy))
theorem FrM.ren (ρ : Nat → Option Nat) {m : MO} (h : FrM m) : RenM ρ m m := by
  cases h with
  | lst h => exact .lst (rens_of fun x hx => (h x hx).ren ρ)
  | rl h => exact .rl (rens_of fun x hx => (h x hx).ren ρ)
  | dk h => exact .dk (pair_of h)
  | dt h => exact .dt (pair_of h)
  | ins h => exact .ins (pair_of h)
  | xd h => exact .xd (pair_of h)
  | oth φ => exact .oth φ
theorem fr_data {ds : List PyData} : ∀ x ∈ ds.map S.d, Fr x := fun x h => by
  obtain ⟨d, _, rfl⟩ := List.mem_map.mp h
  exact .d d
theorem frm_data {ds : List PyData} : FrM (.lst (ds.map S.d)) := .lst fr_data
/-- a store all of whose first n objects are pointer-free -/
theorem keep_fr {n : Nat} {js : List Nat} {M M' : Sto} (hl : M'.length = n + js.length) (nd : js.Nodup) (lo : ∀ j ∈ js, n ≤ j ∧ j < M.length) (hn : n ≤ M.length)
    (f1 : ∀ k, k < n → M'[k]? = M[k]?) (f2 : ∀ (i j : Nat), js[i]? = some j → M'[n + i]? = M[j]?) (f : ∀ m ∈ M', FrM m) : Keep n js M M' :=
  ⟨hl, nd, lo, hn, fun k m h e => ⟨m, (f1 k h).trans e, (f m (List.mem_of_getElem? ((f1 k h).trans e))).ren _⟩, fun i j m h e => ⟨m, (f2 i j h).trans e, (f m (List.mem_of_getElem? ((f2 i j h).trans e))).ren _⟩⟩
/-- the first n objects alone -/
theorem keep_take {n : Nat} {M : Sto} (hn : n ≤ M.length) (f : ∀ m ∈ M.take n, FrM m) : Keep n [] M (M.take n) :=
  keep_fr (by simp [hn]) List.nodup_nil (fun _ h => by cases h) hn (fun k h => by simp [List.getElem?_take, h]) (fun i j h => by simp at h) f
theorem keep_refl {M : Sto} (f : ∀ m ∈ M, FrM m) : Keep M.length [] M M := by
  have := keep_take (Nat.le_refl M.length) (by simpa using f)
  simpa using this
theorem fin_d {n : Nat} {x : PyData} {M M' : Sto} (hn : n ≤ M.length) (e : M.take n = M') (f : ∀ m ∈ M', FrM m) : Fin n (.d x) M (.d x) M' := by
  subst e
  exact ⟨[], keep_take hn f, .d x⟩
/-- a new object comes back -/
theorem fin_p {n k : Nat} {m : MO} {M M' : Sto} (hn : n ≤ k) (hk : M[k]? = some m) (e : M' = M.take n ++ [m]) (f : ∀ m ∈ M', FrM m) : Fin n (.p k) M (.p n) M' := by
  have hl := (List.getElem?_eq_some_iff.mp hk).1
  subst e
  have hlen : (M.take n).length = n := by simp; omega
  refine ⟨[k], keep_fr (by simp; omega) (by simp) (fun j h => by simp at h; omega) (by omega) (fun i h => ?_) (fun i j h => ?_) f, .p ?_⟩
  · rw [List.getElem?_append_left (by omega), List.getElem?_take, if_pos h]
  · have hi : i = 0 := by
      have := (List.getElem?_eq_some_iff.mp h).1
      simpa using this
    subst hi
    simp at h
    subst h
    rw [List.getElem?_append_right (by omega), hlen, hk]
    simp
  · unfold keepR
    rw [if_neg (by omega)]
    simp [List.idxOf?_cons]
end DL

namespace DL
open PySem PySem.Spec PyProof.Rows L2 DX
section
variable {X : Cx} {k : Nat} {fI C : Addr} {fd : FuncData} {f msg pn : Str} {B nI iI : String} {bmB : List Value} {pins : List (Addr × Obj)} {σ : L2.St} {H : Hp} {s : Shared} {Q : VK} {us : List Value} {kw : List (Str × Value)} {u : Value} {y : V}
theorem run_mkx (T : XcC X.K C B nI iI bmB) (iC : PySem.W.findIn X.K (.ref C) "__init__" = some (some (.ref fI))) (tI : PySem.W.typeIn X.K (.ref fI) = some (.type "function")) (F : FnOk X.prog X.w X.K X.mg X.base CX0 k fI fd ["self", pn] (spI C f msg)) (hr : Room (k + 1) X.A)
    (hb : ∀ (s : Shared) (e : Addr), X.K.In s.heap → BindsTo s fd ⟨.ref e :: us, kw⟩ [("self", .ref e), (pn, u)]) (ry : RelV y u) (I : Inv X pins σ H s) (hl : us.length ≤ sizeLine)
    (h : ∀ a t dx, H a = none → H t = none → H dx = none → t ≠ a → dx ≠ a → dx ≠ t → Q (.ref a) (upd (upd (upd H t (.tup [.str msg])) dx (exd dx [(f, y)])) a (exm a C t (some dx)))) :
    wpAny (model X.prog X.w) X.A (call (.ref C) us kw) (EP X pins σ Q) X.xe s := by
  obtain ⟨nm, N, qn, bs, bm, hdct, sn, sub, ab, col, dd, k0, k1, k2, k3, k5, hC, hT⟩ := PySem.W.excInit_of I.kIn T.ei
  obtain ⟨hp, g, d, tk, os⟩ := s
  have hsz : hp.objs.size ≤ hp.objs.size + 1 := Nat.le_succ _
  have hn : H (hp.objs.size + 1) = none := I.hok.fresh hsz
  have kk : ∀ b o, hp.get? b = some o → ((hp.push (PySem.W.kdv_tup us)).push (HandSPX.excO C hp.objs.size)).get? b = some o := fun b o e => Heap.get?_push_of_some _ (Heap.get?_push_of_some _ e)
  have ge : ((hp.push (PySem.W.kdv_tup us)).push (HandSPX.excO C hp.objs.size)).get? (hp.objs.size + 1) = some (HandSPX.excO C hp.objs.size) := by heap_get
  have I2 : Inv X pins σ (upd H (hp.objs.size + 1) (exm (hp.objs.size + 1) C hp.objs.size none)) ⟨(hp.push (PySem.W.kdv_tup us)).push (HandSPX.excO C hp.objs.size), g, d, tk, os⟩ := I.laid (t' := tk) kk hsz (exm_ok ge)
  refine wpAny_call (call_kw T.eb hT hC hl (PySem.W.looks_findIn I.kIn iC) (fun self => PySem.W.bind_fn I.kIn self tI) (codeAny_mono (F.run _ X.stack _ _ ⟨Value.ref (hp.objs.size + 1) :: us, kw⟩ [.ref (hp.objs.size + 1), u] [.ref (hp.objs.size + 1), y]
    (fun v H2 => v = .non ∧ Q (.ref (hp.objs.size + 1)) H2) (fun _ _ _ => False) (hr.make C us kw) (I2.env0.make C us kw) (hb _ _ I2.kIn) (.cons rfl (.cons ry .nil)) ?_) fun r s' hq' => ?_))
  · exact ⟨_, _, y, H, rfl, hn, rfl, fun t dx n1 n2 e1 e2 e3 => ⟨rfl, h _ t dx hn n1 n2 e1 e2 e3⟩⟩
  · cases r with
    | error e => exact hq'.elim
    | ok fl =>
      cases fl with
      | ret v =>
        obtain ⟨v, H', I3, rv, ev, q3⟩ := I2.after hq'
        subst ev
        exact ⟨rv, V.ref (hp.objs.size + 1), H', I3, rfl, q3⟩
      | next => exact False.elim hq'
      | brk => exact False.elim hq'
      | cont => exact False.elim hq'
end
/-- the class x of the text stands at C; its __init__ hands msg on and keeps the thing as f -/
structure XM (m : Ms) (x : Str) (C : Addr) (f msg pn : Str) (dfl : Bool) : Prop where
  mg : m.mg x = some (.ref C)
  kC : PySem.W.keepIn m.K (.ref C) = true
  ex : ∃ (B nI iI : String) (bmB : List Value) (fI : Addr) (fd : FuncData), XcC m.K C B nI iI bmB ∧ PySem.W.findIn m.K (.ref C) "__init__" = some (some (.ref fI)) ∧ PySem.W.typeIn m.K (.ref fI) = some (.type "function") ∧
    FnOk m.P m.w m.K m.mg m.base CX0 1 fI fd ["self", pn] (spI C f msg) ∧
    (∀ (s : Shared) (e : Addr) (u : Value), m.K.In s.heap → BindsTo s fd ⟨[.ref e, u], []⟩ [("self", .ref e), (pn, u)]) ∧
    (∀ (s : Shared) (e : Addr) (u : Value), m.K.In s.heap → BindsTo s fd ⟨[.ref e], [(pn, u)]⟩ [("self", .ref e), (pn, u)]) ∧
    (dfl = true → ∀ (s : Shared) (e : Addr), m.K.In s.heap → BindsTo s fd ⟨[.ref e], []⟩ [("self", .ref e), (pn, .none)])
section
variable {c : Cs} {Γ : Gm} {M M1 : Sto} {e : Expr} {r : S} {p pos : Pos} {x f msg pn : Str} {C : Addr} {dfl : Bool}
/-- behind the making -/
abbrev mkx (M : Sto) (C : Addr) (f msg : Str) (r : S) : Sto := M ++ [.xd [(f, r)]] ++ [.xo C msg (.p M.length)]
theorem mkx_den {K : PySem.W.Frag} {H0 H : Hp} {as0 as : List Addr} {y : V} {a t dx : Addr} (D : DenM K H0 as0 M as H) (sy : SV K H as r y) (na : H a = none) (nt : H t = none) (nd : H dx = none) (e1 : t ≠ a) (e2 : dx ≠ a) (e3 : dx ≠ t) :
    Le as H (as ++ [dx] ++ [a]) (upd (upd (upd H t (.tup [.str msg])) dx (exd dx [(f, y)])) a (exm a C t (some dx))) ∧ DenM K H0 as0 (mkx M C f msg r) (as ++ [dx] ++ [a]) (upd (upd (upd H t (.tup [.str msg])) dx (exd dx [(f, y)])) a (exm a C t (some dx))) := by
  have k1 : Same H (upd H t (.tup [.str msg])) := Same.new nt
  have n2 : upd H t (.tup [.str msg]) dx = none := by rw [upd_ne e3]; exact nd
  have k2 : Same (upd H t (.tup [.str msg])) (upd (upd H t (.tup [.str msg])) dx (exd dx [(f, y)])) := Same.new n2
  have n3 : upd (upd H t (.tup [.str msg])) dx (exd dx [(f, y)]) a = none := by rw [upd_ne (Ne.symm e2), upd_ne (Ne.symm e1)]; exact na
  have k3 : Same (upd (upd H t (.tup [.str msg])) dx (exd dx [(f, y)])) (upd (upd (upd H t (.tup [.str msg])) dx (exd dx [(f, y)])) a (exm a C t (some dx))) := Same.new n3
  have tk1 := (Same.tk k1).trans (Same.tk k2)
  have D2 : DenM K H0 as0 (M ++ [.xd [(f, r)]]) (as ++ [dx]) (upd (upd H t (.tup [.str msg])) dx (exd dx [(f, y)])) :=
    (D.grow k1).push n2 (fun _ => exd_tup) ⟨[(f, y)], upd_same, .cons ⟨rfl, SV.le ⟨List.prefix_append _ _, tk1⟩ sy⟩ .nil⟩ (fun φ e => by cases e)
  refine ⟨⟨by rw [List.append_assoc]; exact List.prefix_append _ _, tk1.trans (Same.tk k3)⟩, D2.push n3 exm_tup ⟨dx, t, .p ?_, upd_same, ?_⟩ (fun φ e => by cases e)⟩
  · rw [← D.len, List.append_assoc, List.getElem?_append_right (Nat.le_refl _)]
    simp
  · rw [upd_ne e1, upd_ne (Ne.symm e3), upd_same]
theorem mkx_sv {K : PySem.W.Frag} {H0 H H' : Hp} {as0 as : List Addr} {a dx : Addr} (D : DenM K H0 as0 M as H) : SV K H' (as ++ [dx] ++ [a]) (.p (M.length + 1)) (.ref a) := by
  refine .p ?_
  rw [← D.len, List.append_assoc, List.getElem?_append_right (Nat.le_succ _)]
  simp
theorem mkx_go {X : Cx} {H0 H : Hp} {as0 as : List Addr} {σ : L2.St} {Q : VK} {pins : List (Addr × Obj)} {s : Shared} {us : List Value} {kw : List (Str × Value)} {u : Value} {y : V} (W : XM c.ms x C f msg pn dfl) (o : OkE c X H0 as0) (hk : 2 ≤ c.k) (D : DenM c.K H0 as0 M as H) (sy : SV c.K H as r y) (ry : RelV y u) (hl : us.length ≤ 1000)
    (hb : ∀ fd : FuncData, (∀ (s : Shared) (e : Addr) (u : Value), c.K.In s.heap → BindsTo s fd ⟨[.ref e, u], []⟩ [("self", .ref e), (pn, u)]) → (∀ (s : Shared) (e : Addr) (u : Value), c.K.In s.heap → BindsTo s fd ⟨[.ref e], [(pn, u)]⟩ [("self", .ref e), (pn, u)]) →
      (dfl = true → ∀ (s : Shared) (e : Addr), c.K.In s.heap → BindsTo s fd ⟨[.ref e], []⟩ [("self", .ref e), (pn, .none)]) → ∀ (s : Shared) (e : Addr), c.K.In s.heap → BindsTo s fd ⟨.ref e :: us, kw⟩ [("self", .ref e), (pn, u)])
    (k : ∀ v as' H', Le as H as' H' → DenM c.K H0 as0 (mkx M C f msg r) as' H' → SV c.K H' as' (.p (M.length + 1)) v → Q v H') (I : Inv X pins σ H s) : wpAny (model X.prog X.w) X.A (call (.ref C) us kw) (EP X pins σ Q) X.xe s := by
  obtain ⟨B, nI, iI, bmB, fI, fd, T, iC, tI, F, b1, b2, b3⟩ := W.ex
  have F' : FnOk X.prog X.w X.K X.mg X.base CX0 1 fI fd ["self", pn] (spI C f msg) := by
    rw [o.P, o.w, o.K, o.mg, o.base]
    exact F
  refine run_mkx (u := u) (y := y) (by rw [o.K]; exact T) (by rw [o.K]; exact iC) (by rw [o.K]; exact tI) F' (o.room.mono hk) (by rw [o.K]; exact hb fd b1 b2 b3) ry I (by rw [sizeLine_eq]; omega) fun a t dx na nt nd e1 e2 e3 => ?_
  obtain ⟨l, d⟩ := mkx_den (f := f) (msg := msg) (C := C) D sy na nt nd e1 e2 e3
  exact k _ _ _ l d (mkx_sv D)
/-- X(e) -/
theorem ex_mkx (W : XM c.ms x C f msg pn dfl) (he : EX c Γ M e r M1) (hk : 2 ≤ c.k := by exact Nat.le_of_ble_eq_true rfl) (hg : c.sc.names.lookup x = some gI := by rfl) (hdb : (x == ("__debug__" : Str)) = false := by decide)
    (hs : ∀ env, starEach [e] env = (false, eval e env) :: starEach [] env := by intro _; rfl) (hpl : ∀ env, (backTo pos (starEach [] env)).any (·.1) = false := by intro _; rfl) : EX c Γ M (.Call (.Name x p) [e] [] pos) (.p (M1.length + 1)) (mkx M1 C f msg r) := by
  constructor
  intro X H0 as0 o as σ H Q D k pins s I
  refine wpAny_Call_Name_kw (ld_glob I (gl_ok o hg) (by rw [o.mg]; exact W.mg) ?_ hdb)
  have ha := (ea_cons he ea_nil hs).run X H0 as0 o as σ H (fun vs H1 => ∃ as1, Le as H as1 H1 ∧ DenM c.K H0 as0 M1 as1 H1 ∧ SVs c.K H1 as1 [r] vs) D fun vs as1 H1 l1 D1 s1 => ⟨as1, l1, D1, s1⟩
  refine PySem.W.callWith_K (h₀ := X.base) I.ok.mod.kin (by rw [o.K]; exact W.kC) (thn (ha pos pins s I) fun us s1 hh => ?_) (hs _) (hpl _)
  obtain ⟨vs, H1, I1, r1, as1, l1, D1, sv⟩ := hh
  cases sv with
  | cons sy sn =>
    cases sn
    cases r1 with
    | cons ry rn =>
      cases rn
      exact ⟨I1.kIn, mkx_go W o hk D1 sy ry (by show 1 ≤ 1000; decide) (fun fd b1 _ _ s e X => b1 s e _ X) (fun v as2 H2 l2 D2 s2 => k v as2 H2 (l1.trans l2) D2 s2) I1⟩
/-- X() -/
theorem ex_mkx0 (W : XM c.ms x C f msg pn true) (hk : 2 ≤ c.k := by exact Nat.le_of_ble_eq_true rfl) (hg : c.sc.names.lookup x = some gI := by rfl) (hdb : (x == ("__debug__" : Str)) = false := by decide) : EX c Γ M (.Call (.Name x p) [] [] pos) (.p (M.length + 1)) (mkx M C f msg (.d .none)) := by
  constructor
  intro X H0 as0 o as σ H Q D k pins s I
  refine wpAny_Call_Name_kw (ld_glob I (gl_ok o hg) (by rw [o.mg]; exact W.mg) ?_ hdb)
  exact PySem.W.callWith_K0 I.kIn (by rw [o.K]; exact W.kC) (mkx_go (us := []) (u := .none) (y := .non) W o hk D.m (.d .non) rfl (Nat.zero_le _) (fun fd _ _ b3 s e X => b3 rfl s e X) k I)
/-- X(pn = e) -/
theorem ex_mkxK {kp : Pos} (W : XM c.ms x C f msg pn dfl) (he : EX c Γ M e r M1) (hk : 2 ≤ c.k := by exact Nat.le_of_ble_eq_true rfl) (hg : c.sc.names.lookup x = some gI := by rfl) (hdb : (x == ("__debug__" : Str)) = false := by decide)
    (hall : ∀ env, (backToKw pos (keywordEach [⟨some pn, e, kp⟩] env)).all (·.1.isSome) = true := by intro _; rfl) (hks : ∀ env, (backToKw pos (keywordEach [⟨some pn, e, kp⟩] env)).filterMap (·.1) = [pn] := by intro _; rfl)
    (hpl : ∀ env, ((backTo pos (starEach [] env)).any (·.1) || (backToKw pos (keywordEach [⟨some pn, e, kp⟩] env)).any (·.1.isNone)) = false := by intro _; rfl) :
    EX c Γ M (.Call (.Name x p) [] [⟨some pn, e, kp⟩] pos) (.p (M1.length + 1)) (mkx M1 C f msg r) := by
  constructor
  intro X H0 as0 o as σ H Q D k pins s I
  refine wpAny_Call_Name_kw (ld_glob I (gl_ok o hg) (by rw [o.mg]; exact W.mg) ?_ hdb)
  refine PySem.W.callWith_KW0 (h₀ := X.base) I.ok.mod.kin (by rw [o.K]; exact W.kC) (hall _) ?_ (hpl _)
  have ha : tCons (tE X e) tNil σ H (fun vs H1 => ∃ as1, Le as H as1 H1 ∧ DenM c.K H0 as0 M1 as1 H1 ∧ SVs c.K H1 as1 [r] vs) :=
    he.run X H0 as0 o as σ H _ D fun v as1 H1 l1 D1 s1 => ⟨as1, l1, D1, .cons s1 .nil⟩
  refine thn ((pk_cons (nm := some pn) (kpos := kp) (pE X e) pk_nil).run pos pins s σ H _ I ha) fun ws s2 hh => ?_
  obtain ⟨vs, H1, I1, r1, as1, l1, D1, sv⟩ := hh
  refine ⟨I1.kIn, ?_⟩
  rw [hks]
  cases sv with
  | cons sy sn =>
    cases sn
    cases r1 with
    | cons ry rn =>
      cases rn
      exact mkx_go (us := []) W o hk D1 sy ry (Nat.zero_le _) (fun fd _ b2 _ s e X => b2 s e _ X) (fun v as2 H2 l2 D2 s2 => k v as2 H2 (l1.trans l2) D2 s2) I1
end
end DL

namespace DL
open PySem PySem.Spec PyProof.Rows L2 DX
section
variable {K : PySem.W.Frag} {P : Program} {w : World} {H : Hp} {h : Heap} {a C t d : Addr} {vs : List (Str × V)}
theorem ksv_get {κ : Type} [BEq κ] [LawfulBEq κ] {as : List Addr} {f : κ} {r : S} : ∀ {fs : List (κ × S)} {us : List (κ × V)}, KSV K H as fs us → fs.lookup f = some r → ∃ v, us.lookup f = some v ∧ SV K H as r v
  | _, _, .nil, e => by cases e
  | (g, x) :: fs, (g', y) :: us, .cons q k, e => by
    obtain ⟨e1, e2⟩ := q
    dsimp only at e1 e2
    subst e1
    by_cases z : (f == g) = true
    · simp only [List.lookup, z] at e ⊢
      cases e
      exact ⟨y, rfl, e2⟩
    · rw [Bool.not_eq_true] at z
      simp only [List.lookup, z] at e ⊢
      exact ksv_get k e
theorem exm_inst (ok : HOk P w H h) (e : H a = some (exm a C t (some d))) (ed : H d = some (exd d vs)) :
    ∃ (mA : Str → Option Value) (od : Obj), h.Ns1 d mA ∧ (∀ f, RelO (vs.lookup f) (mA f)) ∧ h.get? d = some od ∧ (∀ n, PySem.W.lookIn n od = some (mA n)) ∧
      PySem.W.InstAt h a ({ cls := .ref C, dict := some d, data := .fields #[.ref t, .none, .none, .none, .bool false, .none] } : Obj) C (some od) := by
  obtain ⟨mA, hn, rl⟩ := exd_at ok ed
  obtain ⟨od, ho, hl⟩ := lookIn_ns hn
  exact ⟨mA, od, hn, rl, ho, hl, exm_at ok e, rfl, rfl, ho⟩
end
section
variable {c : Cs} {Γ : Gm} {M M1 : Sto} {e : Expr} {r s : S} {p pos : Pos} {x f msg : Str} {C : Addr} {k j : Nat} {fs : List (Str × S)}
/-- e.f, e an exception of ours -/
theorem ex_xf (T : XqC c.K C) (hno : PySem.W.findIn c.K (.ref C) f = some none) (he : EX c Γ M e (.p k) M1) (h1 : M1[k]? = some (.xo C msg (.p j))) (h2 : M1[j]? = some (.xd fs)) (hf : fs.lookup f = some r)
    (hb : ∀ env, attributeBase e f env (eval e env) = eval e env := by intro _; rfl) : EX c Γ M (.Attribute e f pos) r M1 := by
  constructor
  intro X H0 as0 o as σ H Q D kq pins s I
  refine attr_of (hb _) (thn (he.run X H0 as0 o as σ H (fun v H1 => ∃ as1, Le as H as1 H1 ∧ DenM c.K H0 as0 M1 as1 H1 ∧ SV c.K H1 as1 (.p k) v) D (fun v as1 H1 l1 D1 s1 => ⟨as1, l1, D1, s1⟩) pins s I) fun u s1 hh => ?_)
  obtain ⟨v, H1, I1, rv, as1, l1, D1, sv⟩ := hh
  cases sv with
  | p ea =>
    obtain rfl : u = Value.ref _ := rv
    obtain ⟨d, t, sd, e1, _⟩ := D1.mem k _ _ h1 ea
    cases sd with
    | p ed =>
      obtain ⟨vs, e2, kv⟩ := D1.mem j _ _ h2 ed
      obtain ⟨mA, od, hn, rl, ho, hl, J⟩ := exm_inst I1.hok e1 e2
      obtain ⟨y, ly, sy⟩ := ksv_get kv hf
      obtain ⟨z, hz, rz⟩ := RelO.some_of (v := y) (o := mA f) (by rw [← ly]; exact rl f)
      have KX : c.K.In s1.heap := by rw [← o.K]; exact I1.kIn
      exact HandSPX.exc_get KX J T.ga T.gg T.sb (PySem.W.findObj_own T.hd hno rfl (by rw [hl, hz])) (handed_of rz) ⟨y, H1, I1.tok _, rz, kq y as1 H1 l1 D1 sy⟩
/-- isinstance(e, X), e an exception of ours -/
theorem cs_isx {cv : Value} {u : V} {b : Bool} (T : XqC c.K C) (G : XqG c.K) (h1 : M[k]? = some (.xo C msg (.p j))) (h2 : M[j]? = some (.xd fs)) (hu : ClsV u cv) (hb : PySem.W.kitOne c.K (.ref C) cv = some b) : CS c (.builtin "isinstance") [.p k, .v u] M (.d (.bool b)) M := by
  constructor
  intro X H0 as0 o
  refine ⟨fun xs H Q => ∃ (a d t : Addr) (vs : List (Str × V)), xs = [.ref a, u] ∧ H a = some (exm a C t (some d)) ∧ H d = some (exd d vs) ∧ Q (.bl b) H, fun pins s σ H xs us Q I r h => ?_, fun as H vs Q D sv q => ?_⟩
  · obtain ⟨a, d, t, vs, rfl, e1, e2, q⟩ := h
    obtain ⟨u1, u2, rfl, r1, r2⟩ := vals2 r
    obtain rfl : u1 = Value.ref a := r1
    have e := hu.eq r2
    subst e
    obtain ⟨mA, od, hn, rl, ho, hl, J⟩ := exm_inst I.hok e1 e2
    have KX : c.K.In s.heap := by rw [← o.K]; exact I.kIn
    exact PySem.W.kia_one (kitx T G) KX J hb (fun z => nomatch z) fun tk => ⟨.bl b, H, I.tok tk, rfl, q⟩
  · obtain ⟨v, w, rfl, s1, s2⟩ := sv2 sv
    cases sv_v s2
    cases s1 with
    | p ea =>
      obtain ⟨d, t, sd, e1, _⟩ := D.mem k _ _ h1 ea
      cases sd with
      | p ed =>
        obtain ⟨vs, e2, kv⟩ := D.mem j _ _ h2 ed
        exact ⟨_, d, t, vs, rfl, e1, e2, q _ as H (Le.refl _ _) D (.d (.bl _))⟩
/-- str(e), e an exception of ours -/
theorem cs_strx (T : XqC c.K C) (h1 : M[k]? = some (.xo C msg s)) : CS c (.type "str") [.p k] M (.d (.str msg)) M := by
  constructor
  intro X H0 as0 o
  refine ⟨fun xs H Q => ∃ (a d t : Addr), xs = [.ref a] ∧ H a = some (exm a C t (some d)) ∧ H t = some (.tup [.str msg]) ∧ Q (.str msg) H, fun pins s σ H xs us Q I r h => ?_, fun as H vs Q D sv q => ?_⟩
  · obtain ⟨a, d, t, rfl, e1, e2, q⟩ := h
    cases r with
    | cons r1 rn =>
      cases rn
      rename_i u1
      obtain rfl : u1 = Value.ref a := r1
      have ho := exm_at I.hok e1
      obtain ⟨_, its, rv, ot, h1, h2, n, h3⟩ := (show ObjOk X.prog X.w H s.heap t (.tup [.str msg]) from I.hok t _ e2)
      cases rv with
      | cons rm rn =>
        cases rn
        obtain ⟨tk, rfl⟩ := rm
        have KX : c.K.In s.heap := by rw [← o.K]; exact I.kIn
        exact PySem.P.str_of_C_one (K := c.K) (C := C) (e := a) (t0 := t) (by have := o.room.units; omega) ⟨KX, _, _, ho, rfl, rfl, rfl⟩ ⟨ot, n, h1, h2, h3⟩ T.st T.sb ⟨.str msg, H, I, ⟨tk, rfl⟩, q⟩
  · obtain ⟨v, rfl, s1⟩ := sv1 sv
    cases s1 with
    | p ea =>
      obtain ⟨d, t, sd, e1, e2⟩ := D.mem k _ _ h1 ea
      exact ⟨_, d, t, rfl, e1, e2, q _ as H (Le.refl _ _) D (.d (.str _))⟩
end
end DL

namespace DL
open PySem PySem.Spec PyProof.Rows L2 DX
def CPowB (a n : Int) : Prop := 0 ≤ n ∧ (Builtin.Int.intBits a : Int) * n ≤ 2 ^ 27
/-- text * number -/
def repS (x : Str) (n : Int) : Str := if n < 1 then Str.empty else if (n == 1 || x.length == 0) = true then x else ⟨(List.replicate n.toNat x.cps).foldl (· ++ ·) #[]⟩
section
variable {c : Cs} {M : Sto} {i j : Int} {x : Str}
theorem os_powB (h : CPowB i j) : OS c (binaryOp .Pow) (.d (.int i)) (.d (.int j)) M (.d (.int (i ^ j.toNat))) M :=
  os_int (C := CPowB) (g := fun i j => i ^ j.toNat) (fun _ => opI fun _ _ _ _ _ _ _ hc q => pow_int hc.1 hc.2 q) h
theorem os_mulS (h0 : 0 ≤ j) (h1 : j ≤ 1000) (hl : x.length ≤ 1000) (hr : (repS x j).length ≤ 1000000) : OS c (binaryOp .Mult) (.d (.str x)) (.d (.int j)) M (.d (.str (repS x j))) M :=
  os_val (R := fun u v H Q => u = .str x ∧ v = .int j ∧ Q (.str (repS x j)) H) (fun X o => by
    intro pins s σ H u v uu vv Q I ru rv h
    obtain ⟨rfl, rfl, q⟩ := h
    obtain ⟨t, rfl⟩ := ru
    obtain ⟨t', rfl⟩ := rv
    have hx : (x.length : Int) * j ≤ 1000 * 1000 := by
      have : (x.length : Int) ≤ 1000 := by exact_mod_cast hl
      exact Int.mul_le_mul this h1 h0 (by decide)
    refine PySem.P.mul_str ?_ (fun hn _ => ?_) (fun hn _ => ?_) ?_
    · rw [Bool.or_eq_false_iff]
      exact ⟨decide_eq_false (by omega), decide_eq_false (by omega)⟩
    · have : (1000 : Int) * j ≤ 2 ^ 63 - 1 := by omega
      have := (Int.le_ediv_iff_mul_le (a := 1000) (b := 2 ^ 63 - 1) (c := j) (by omega)).mpr this
      have : (x.length : Int) ≤ 1000 := by exact_mod_cast hl
      omega
    · have h2 : x.length * j.toNat ≤ 1000 * 1000 := Nat.mul_le_mul hl (by omega)
      unfold PySem.Builtin.Str.tooLong
      rw [decide_eq_false_iff_not, sizeLine_eq]
      omega
    · unfold repS at q hr
      split
      · rename_i z
        rw [if_pos z] at q hr
        exact ⟨by rw [sizeLine_eq]; omega, .str _, H, I.tok _, ⟨_, rfl⟩, q⟩
      · rename_i z
        rw [if_neg z] at q hr
        split
        · rename_i z2
          rw [if_pos z2] at q
          exact ⟨.str _, H, I, ⟨_, rfl⟩, q⟩
        · rename_i z2
          rw [if_neg z2] at q hr
          exact ⟨by rw [sizeLine_eq]; omega, .str _, H, I.tok _, ⟨_, rfl⟩, q⟩) fun H as u v Q sx sy k => ⟨sv_str sx, sv_int sy, k _ (.d (.str _))⟩
theorem cs_strI (h : i.natAbs.log2 < 1920) : CS c (.type "str") [.d (.int i)] M (.d (.str (toString i))) M :=
  cs_of (fun _ => _) (fun X o => call_str_int) fun X H0 as0 o as H vs Q D sv q => by
    obtain ⟨v, rfl, s1⟩ := sv1 sv
    cases sv_int s1
    exact ⟨i, rfl, h, q _ as H (Le.refl _ _) D (.d (.str _))⟩
theorem cs_strS : CS c (.type "str") [.d (.str x)] M (.d (.str x)) M :=
  cs_of (fun _ => _) (fun X o => SkE.call_str_str) fun X H0 as0 o as H vs Q D sv q => by
    obtain ⟨v, rfl, s1⟩ := sv1 sv
    cases sv_str s1
    exact ⟨x, rfl, q _ as H (Le.refl _ _) D (.d (.str _))⟩
end
end DL

namespace DL
open PySem PySem.Spec PyProof.Rows L2 DX
/-! ### pointers below n alone -/
mutual
def loS (n : Nat) : S → Prop
  | .d _ => True
  | .v _ => True
  | .p k => k < n
  | .t xs => loL n xs
def loL (n : Nat) : List S → Prop
  | [] => True
  | x :: xs => loS n x ∧ loL n xs
end
def loM (n : Nat) : MO → Prop
  | .lst xs => loL n xs
  | .rl xs => loL n xs
  | .dk kvs => loL n (kvs.map (·.2))
  | .dt kvs => loL n (kvs.map (·.2))
  | .ins _ fs => loL n (fs.map (·.2))
  | .xo _ _ s => loS n s
  | .xd fs => loL n (fs.map (·.2))
  | .oth _ => True
def loMs (n : Nat) : List MO → Prop
  | [] => True
  | m :: r => loM n m ∧ loMs n r
def loG (n : Nat) : Gm → Prop
  | [] => True
  | none :: r => loG n r
  | some s :: r => loS n s ∧ loG n r
section
variable {n : Nat} {ρ : Nat → Option Nat} (hρ : ∀ k, k < n → ρ k = some k)
include hρ
mutual
theorem loS.ren : ∀ {x : S}, loS n x → Ren ρ x x
  | .d x, _ => .d x
  | .v u, _ => .v u
  | .p k, h => .p (hρ k h)
  | .t xs, h => .t (loL.ren (by unfold loS at h; exact h))
theorem loL.ren : ∀ {xs : List S}, loL n xs → Rens ρ xs xs
  | [], _ => .nil
  | x :: xs, h => by
    unfold loL at h
    exact .cons (loS.ren h.1) (loL.ren h.2)
end
theorem loL.pair {κ : Type} : ∀ {xs : List (κ × S)}, loL n (xs.map (·.2)) → Paired (fun p q => p.1 = q.1 ∧ Ren ρ p.2 q.2) xs xs
  | [], _ => .nil
  | x :: xs, h => by
    rw [List.map_cons] at h
    unfold loL at h
    exact .cons ⟨rfl, loS.ren hρ h.1⟩ (loL.pair h.2)
theorem loM.ren : ∀ {m : MO}, loM n m → RenM ρ m m
  | .lst xs, h => .lst (loL.ren hρ h)
  | .rl xs, h => .rl (loL.ren hρ h)
  | .dk xs, h => .dk (loL.pair hρ h)
  | .dt xs, h => .dt (loL.pair hρ h)
  | .ins _ xs, h => .ins (loL.pair hρ h)
  | .xo _ _ s, h => .xo (loS.ren hρ h)
  | .xd xs, h => .xd (loL.pair hρ h)
  | .oth φ, _ => .oth φ
end
theorem loMs.at {n : Nat} : ∀ {M : Sto}, loMs n M → ∀ m ∈ M, loM n m
  | [], _, m, h => by cases h
  | a :: r, h, m, hm => by
    unfold loMs at h
    rcases List.mem_cons.mp hm with rfl | hm
    · exact h.1
    · exact loMs.at h.2 m hm
theorem loG.at {n : Nat} : ∀ {Γ : Gm}, loG n Γ → ∀ (i : Nat) s, Γ[i]? = some (some s) → loS n s
  | [], _, i, s, e => by simp at e
  | none :: r, h, 0, s, e => by simp at e
  | none :: r, h, i + 1, s, e => loG.at (Γ := r) (by unfold loG at h; exact h) i s (by simpa using e)
  | some x :: r, h, 0, s, e => by
    unfold loG at h
    simp at e
    subst e
    exact h.1
  | some x :: r, h, i + 1, s, e => by
    unfold loG at h
    exact loG.at h.2 i s (by simpa using e)
theorem keepR_lo {n : Nat} {js : List Nat} (k : Nat) (h : k < n) : keepR n js k = some k := if_pos h
/-- the first n objects stay, pointing among themselves -/
theorem keep_lo {n : Nat} {M M' : Sto} (hn : n ≤ M.length) (e : M.take n = M') (f : loMs n M') : Keep n [] M M' := by
  subst e
  refine ⟨by simp [hn], List.nodup_nil, fun _ h => absurd h List.not_mem_nil, hn, fun k m h e => ⟨m, by simp [List.getElem?_take, h, e], loM.ren (fun k h => keepR_lo k h) (f.at m (List.mem_of_getElem? (i := k) (by simp [List.getElem?_take, h, e])))⟩, fun i j m h => by simp at h⟩
/-- forgetting slots: Γ' is Γ with some of them gone -/
def subG : Gm → Gm → Prop
  | [], [] => True
  | none :: r, _ :: r' => subG r r'
  | some s :: r, t :: r' => some s = t ∧ subG r r'
  | _, _ => False
theorem subG.at : ∀ {Γ' Γ : Gm}, subG Γ' Γ → Γ'.length = Γ.length ∧ ∀ (i : Nat) s, Γ'[i]? = some (some s) → Γ[i]? = some (some s)
  | [], [], _ => ⟨rfl, fun i s e => by simp at e⟩
  | none :: r, t :: r', h => by
    unfold subG at h
    obtain ⟨h1, h2⟩ := subG.at h
    refine ⟨by simp [h1], fun i s e => ?_⟩
    cases i with
    | zero => simp at e
    | succ i => simpa using h2 i s (by simpa using e)
  | some x :: r, t :: r', h => by
    unfold subG at h
    obtain ⟨rfl, h⟩ := h
    obtain ⟨h1, h2⟩ := subG.at h
    refine ⟨by simp [h1], fun i s e => ?_⟩
    cases i with
    | zero => simpa using e
    | succ i => simpa using h2 i s (by simpa using e)
  | [], _ :: _, h => h.elim
  | none :: _, [], h => h.elim
  | some _ :: _, [], h => h.elim
theorem nxt_of {n : Nat} {P : Gm → Sto → Prop} {Γ Γ' : Gm} {M M' : Sto} (hn : n ≤ M.length) (e : M.take n = M') (f : loMs n M') (g : subG Γ' Γ) (g2 : loG n Γ') (h : P Γ' M') : Nxt n P Γ M := by
  obtain ⟨e1, e2⟩ := g.at
  exact ⟨Γ', M', ⟨keep_lo hn e f, e1, fun i s q => ⟨s, e2 i s q, loS.ren (fun k h => keepR_lo k h) (g2.at i s q)⟩⟩, h⟩
/-- the end of a def whose result is data -/
theorem fin_lo {n : Nat} {r : S} {M M' : Sto} (hn : n ≤ M.length) (e : M.take n = M') (f : loMs n M') (hr : loS n r) : Fin n r M r M' := ⟨[], keep_lo hn e f, loS.ren (fun k h => keepR_lo k h) hr⟩
/-- a new object comes back -/
theorem fin_lop {n k : Nat} {m : MO} {M M0 : Sto} (hn : n ≤ k) (hk : M[k]? = some m) (e : M.take n = M0) (f : loMs n M0) (hm : loM n m) : Fin n (.p k) M (.p n) (M0 ++ [m]) := by
  have hl := (List.getElem?_eq_some_iff.mp hk).1
  subst e
  have hlen : (M.take n).length = n := by simp; omega
  refine ⟨[k], ⟨by simp; omega, by simp, fun j h => by simp at h; omega, by omega, fun j m' h e => ⟨m', ?_, loM.ren (fun k h => keepR_lo k h) (f.at m' (List.mem_of_getElem? (i := j) (by simp [List.getElem?_take, h, e])))⟩, fun i j m' h e => ?_⟩, .p ?_⟩
  · rw [List.getElem?_append_left (by omega), List.getElem?_take, if_pos h, e]
  · have hi : i = 0 := by
      have := (List.getElem?_eq_some_iff.mp h).1
      simpa using this
    subst hi
    simp at h
    subst h
    rw [hk] at e
    cases e
    refine ⟨m, ?_, loM.ren (fun k h => keepR_lo k h) hm⟩
    rw [List.getElem?_append_right (by omega), hlen]
    simp
  · unfold keepR
    rw [if_neg (by omega)]
    simp [List.idxOf?_cons]
theorem nxtM_of {n : Nat} {P : Sto → Prop} {M M' : Sto} (hn : n ≤ M.length) (e : M.take n = M') (f : loMs n M') (h : P M') : NxtM n P M := ⟨[], M', keep_lo hn e f, h⟩
end DL

namespace DL
open PySem PySem.Spec PyProof.Rows L2 DX
theorem OS.to {c : Cs} {f : Value → Value → Sem Value} {x y r r' : S} {M M1 M' : Sto} (h : OS c f x y M r M1) (hr : r = r') (hM : M1 = M') : OS c f x y M r' M' := by subst hr hM; exact h
theorem ex_to {c : Cs} {Γ : Gm} {M M1 M2 : Sto} {e : Expr} {r s : S} (h : EX c Γ M e r M1) (hr : r = s) (hM : M1 = M2) : EX c Γ M e s M2 := by subst hr hM; exact h
theorem et_to {c : Cs} {Γ : Gm} {M M1 M2 : Sto} {e : Expr} {r s : Bool} (h : ET c Γ M e r M1) (hr : r = s) (hM : M1 = M2) : ET c Γ M e s M2 := by subst hr hM; exact h
section
variable {c : Cs} {Γ : Gm} {M M1 M2 : Sto} {a b : Expr} {es : List Expr} {pos : Pos} {q : Bool}
theorem ew_orF (ha : ET c Γ M a false M1) (hb : EW c Γ M1 (.BoolOp .Or (b :: es) pos) q M2) : EW c Γ M (.BoolOp .Or (a :: b :: es) pos) q M2 := by
  constructor
  intro X H0 as0 o as σ H Q D k
  refine tW_of (pw_or (pT X a) (pW X _)) (ha.run X H0 as0 o as σ H _ D fun as1 H1 l1 D1 => ?_)
  rw [if_neg Bool.false_ne_true]
  exact hb.run X H0 as0 o as1 σ H1 Q (D.next l1 D1) fun as2 H2 l2 D2 => k as2 H2 (l1.trans l2) D2
theorem ew_orT (ha : ET c Γ M a true M1) : EW c Γ M (.BoolOp .Or (a :: b :: es) pos) true M1 := by
  constructor
  intro X H0 as0 o as σ H Q D k
  refine tW_of (pw_or (pT X a) (pW X _)) (ha.run X H0 as0 o as σ H _ D fun as1 H1 l1 D1 => ?_)
  rw [if_pos rfl]
  exact k as1 H1 l1 D1
theorem ew_andT (ha : ET c Γ M a true M1) (hb : EW c Γ M1 (.BoolOp .And (b :: es) pos) q M2) : EW c Γ M (.BoolOp .And (a :: b :: es) pos) q M2 := by
  constructor
  intro X H0 as0 o as σ H Q D k
  refine tW_of (pw_and (pT X a) (pW X _)) (ha.run X H0 as0 o as σ H _ D fun as1 H1 l1 D1 => ?_)
  rw [if_pos rfl]
  exact hb.run X H0 as0 o as1 σ H1 Q (D.next l1 D1) fun as2 H2 l2 D2 => k as2 H2 (l1.trans l2) D2
theorem ew_andF (ha : ET c Γ M a false M1) : EW c Γ M (.BoolOp .And (a :: b :: es) pos) false M1 := by
  constructor
  intro X H0 as0 o as σ H Q D k
  refine tW_of (pw_and (pT X a) (pW X _)) (ha.run X H0 as0 o as σ H _ D fun as1 H1 l1 D1 => ?_)
  rw [if_neg Bool.false_ne_true]
  exact k as1 H1 l1 D1
end
/-- the whole store stays -/
theorem fin_all {n : Nat} {r : S} {M : Sto} (hn : n ≤ M.length) (f : loMs M.length M) (hr : loS M.length r) : Fin n r M r M := by
  have hk : ∀ k, k < M.length → keepR n (List.range' n (M.length - n)) k = some k := fun k h => by
    unfold keepR
    by_cases q : k < n
    · rw [if_pos q]
    · rw [if_neg q]
      have e : (List.range' n (M.length - n))[k - n]? = some k := by
        rw [List.getElem?_range' (by omega)]
        congr 1
        omega
      rw [idxOf_nodup (List.nodup_range' ..) e]
      show some (n + (k - n)) = some k
      congr 1
      omega
  refine ⟨List.range' n (M.length - n), ⟨by rw [List.length_range']; omega, List.nodup_range' .., fun j h => ?_, hn, fun k m h e => ⟨m, e, loM.ren hk (f.at m (List.mem_of_getElem? e))⟩, fun i j m h e => ⟨m, ?_, loM.ren hk (f.at m (List.mem_of_getElem? e))⟩⟩, loS.ren hk hr⟩
  · rw [List.mem_range'] at h
    obtain ⟨i, h1, h2⟩ := h
    omega
  · have hi : i < M.length - n := by
      have := (List.getElem?_eq_some_iff.mp h).1
      rwa [List.length_range'] at this
    rw [List.getElem?_range' hi] at h
    have : n + i = j := by
      have := Option.some.inj h
      omega
    rw [this]
    exact e
/-! ### pointers moved on -/
mutual
def shS (n : Nat) : S → S
  | .d x => .d x
  | .v u => .v u
  | .p k => .p (n + k)
  | .t xs => .t (shL n xs)
def shL (n : Nat) : List S → List S
  | [] => []
  | x :: xs => shS n x :: shL n xs
end
def shK {κ : Type} (n : Nat) : List (κ × S) → List (κ × S)
  | [] => []
  | (k, x) :: xs => (k, shS n x) :: shK n xs
def shM (n : Nat) : MO → MO
  | .lst xs => .lst (shL n xs)
  | .rl xs => .rl (shL n xs)
  | .dk kvs => .dk (shK n kvs)
  | .dt kvs => .dt (shK n kvs)
  | .ins C fs => .ins C (shK n fs)
  | .xo C m s => .xo C m (shS n s)
  | .xd fs => .xd (shK n fs)
  | .oth φ => .oth φ
def shMs (n : Nat) : List MO → List MO
  | [] => []
  | m :: r => shM n m :: shMs n r
section
variable {n : Nat} {ρ : Nat → Option Nat} (hρ : ∀ k, ρ k = some (n + k))
include hρ
mutual
theorem shS.ren : ∀ x : S, Ren ρ x (shS n x)
  | .d x => .d x
  | .v u => .v u
  | .p k => .p (hρ k)
  | .t xs => .t (shL.ren xs)
theorem shL.ren : ∀ xs : List S, Rens ρ xs (shL n xs)
  | [] => .nil
  | x :: xs => .cons (shS.ren x) (shL.ren xs)
end
theorem shK.ren {κ : Type} : ∀ xs : List (κ × S), Paired (fun p q => p.1 = q.1 ∧ Ren ρ p.2 q.2) xs (shK n xs)
  | [] => .nil
  | (k, x) :: xs => .cons ⟨rfl, shS.ren hρ x⟩ (shK.ren xs)
theorem shM.ren : ∀ m : MO, RenM ρ m (shM n m)
  | .lst xs => .lst (shL.ren hρ xs)
  | .rl xs => .rl (shL.ren hρ xs)
  | .dk xs => .dk (shK.ren hρ xs)
  | .dt xs => .dt (shK.ren hρ xs)
  | .ins _ xs => .ins (shK.ren hρ xs)
  | .xo _ _ s => .xo (shS.ren hρ s)
  | .xd xs => .xd (shK.ren hρ xs)
  | .oth φ => .oth φ
end
theorem shMs.length {n : Nat} : ∀ M : Sto, (shMs n M).length = M.length
  | [] => rfl
  | _ :: r => congrArg (· + 1) (shMs.length r)
theorem shMs.at {n : Nat} : ∀ {M : Sto} {i : Nat} {m : MO}, M[i]? = some m → (shMs n M)[i]? = some (shM n m)
  | [], _, _, e => by simp at e
  | a :: r, 0, m, e => by
    simp at e
    subst e
    rfl
  | a :: r, i + 1, m, e => by
    have := shMs.at (n := n) (M := r) (i := i) (by simpa using e)
    simpa [shMs] using this
/-- data in; new objects come out, behind those that stand -/
theorem proj_sh {ds : List PyData} {r' r : S} {M Mc' M2 : Sto} (er : shS M.length r' = r) (eM : M ++ shMs M.length Mc' = M2) : Proj [] (ds.map S.d) M (ds.map S.d) [] r' Mc' r M2 := by
  subst er eM
  have hρ : ∀ k, outR [] M.length k = some (M.length + k) := fun k => by
    unfold outR
    exact if_neg (Nat.not_lt_zero _)
  exact {
    nd := List.nodup_nil
    lt := fun _ h => absurd h List.not_mem_nil
    args := Rens.data _ _
    mc := rfl
    mi := fun i k m e => by simp at e
    len := Nat.zero_le _
    len' := by rw [List.length_append, shMs.length]; rfl
    r := shS.ren hρ r'
    old := fun k h _ => List.getElem?_append_left h
    back := fun i m j e eo => by
      rw [hρ] at eo
      cases eo
      exact ⟨shM M.length m, by rw [List.getElem?_append_right (by omega), Nat.add_sub_cancel_left]; exact shMs.at e, shM.ren hρ m⟩ }
end DL

namespace DL
open PySem PySem.Spec PyProof.Rows L2 DX
/-! ### the script: a list of the entry that nothing writes -/
def entS (K : PySem.W.Frag) (a : Addr) (ns : List Int) : Hp → List Addr → Prop := fun H0 as0 => as0 = [] ∧ SqL K H0 a (ns.map V.int)
section
variable {c : Cs} {Γ : Gm} {M M1 M2 M3 : Sto} {e b : Expr} {r : S} {p pos : Pos} {a : Addr} {ns : List Int}
theorem sq_now {X : Cx} {H0 H : Hp} {as0 as : List Addr} (o : OkE c X H0 as0) (hE : c.ent = entS c.K a ns) (D : DenM c.K H0 as0 M as H) : SqL c.K H a (ns.map V.int) := by
  have q := o.ent
  rw [hE] at q
  obtain ⟨rfl, q⟩ := q
  have nn : ∀ u, H0 a = some u → H a = some u := fun u h => D.fr a u h fun z => by
    obtain ⟨l, e, hl⟩ := D.new
    rw [e, List.nil_append] at z
    rw [hl a z] at h
    cases h
  rcases q with q | q
  · rcases q with q | ⟨ob, q⟩
    · exact .inl (.inl (nn _ q))
    · exact .inl (.inr ⟨ob, nn _ q⟩)
  · exact .inr q
abbrev intsS (ns : List Int) : List S := ns.map fun n => .d (.int n)
theorem ints_sv {K : PySem.W.Frag} {H : Hp} {as : List Addr} : ∀ ns : List Int, SVs K H as (intsS ns) (ns.map V.int)
  | [] => .nil
  | n :: ns => .cons (.d (.int n)) (ints_sv ns)
theorem cs_sumV (hE : c.ent = entS c.K a ns) : CS c (.builtin "sum") [.v (.ref a)] M (.d (.int ns.sum)) M :=
  cs_of (fun X => rSum X.K) (fun X o => cr_sum o.calm) fun X H0 as0 o as H vs Q D sv q => by
    obtain ⟨v, rfl, s1⟩ := sv1 sv
    cases sv_v s1
    rw [o.K]
    exact ⟨_, ns, rfl, sq_now o hE D, q _ as H (Le.refl _ _) D (.d (.int _))⟩
/-- script[lo:hi] -/
theorem ex_slV {lo hi : Option Expr} {l h : Option Int} {p2 : Pos} {e : Expr} (hE : c.ent = entS c.K a ns) (ha : EX c Γ M e (.v (.ref a)) M1) (hl : EO c Γ M1 lo l M2) (hh : EO c Γ M2 hi h M3) : EX c Γ M (.Subscript e (.Slice lo hi none p2) pos) (.p M3.length) (M3 ++ [.lst (cutS (intsS ns) l h)]) := by
  constructor
  intro X H0 as0 o as σ H Q D w
  refine tE_of (pe_slice sl_list (pE X e) (pO X lo) (pO X hi)) ?_
  refine ha.run X H0 as0 o as σ H _ D fun u as1 H1 l1 D1 s1 => ?_
  refine hl.run o (D.next l1 D1) fun as2 H2 l2 D2 => ?_
  refine hh.run o (D.next (l1.trans l2) D2) fun as3 H3 l3 D3 => ?_
  cases sv_v s1
  rw [o.K]
  exact ⟨_, _, rfl, sq_now o hE D3, fun p hp => new_obj D3 hp no_lst (mok_lst hp (cut_sv (ints_sv ns))) no_oth fun z as4 H4 l4 D4 s4 => w z as4 H4 (((l1.trans l2).trans l3).trans l4) D4 s4⟩
end
/-- the law's promise -/
def spLaw (K : PySem.W.Frag) : Sp := fun vs H Q _ => ∃ (a : Addr) (ns : List Int), vs = [.ref a] ∧ SqL K H a (ns.map V.int) ∧ ns.length ≤ 63 ∧ (∀ z ∈ ns, Builtin.Int.intBits z ≤ 1048576) ∧ ∀ H', Q (.bl true) H'
abbrev Ms.csE (m : Ms) (N : List Str) (sc : Scope) (k : Nat) (ent : Hp → List Addr → Prop) : Cs := ⟨m.P, m.w, m.K, m.mg, m.base, N, sc, k, fun _ => true, ent⟩
theorem law_of {m : Ms} {st : Stmt} {f : Addr} {fd : FuncData} {N : List Str} {k : Nat} (F : Fun m.K "law" "law" st f fd) (S : FnScope N ["script"] (defScope st)) (hl : 1 ≤ N.length)
    (body : ∀ (a : Addr) (ns : List Int), ns.length ≤ 63 → (∀ z ∈ ns, Builtin.Int.intBits z ≤ 1048576) → BX (m.csE N (defScope st) k (entS m.K a ns)) (some (.v (.ref a)) :: List.replicate (N.length - 1) none) [] (defBody st) { nx := fun _ _ => False, rt := fun r _ => r = .d (.bool true) }) :
    FnOk m.P m.w m.K m.mg m.base CX0 (k + 1) f fd ["script"] (spLaw m.K) := by
  refine F.ok S (fun vs H Q E h => ?_) (fun cdv A outer s H vs Q E hr h => ?_)
  · obtain ⟨a, ns, rfl, _⟩ := h
    rfl
  · obtain ⟨a, ns, rfl, hS, h63, hb, q⟩ := h
    refine ⟨_, pB _ (defBody st), ?_⟩
    have o : OkE (m.csE N (defScope st) k (entS m.K a ns)) (cxOf CX0 m.P m.w m.K m.mg m.base N "law" (defScope st) f cdv A outer s H E).nox H [] := ⟨⟨rfl, rfl, rfl, rfl, rfl, rfl, rfl, rfl, hr, S.nd, S.kind, own_never, fun _ _ => rfl⟩, rfl, hS⟩
    have D0 : DenM m.K H [] [] [] H := ⟨List.nodup_nil, rfl, ⟨[], rfl, fun _ h => absurd h List.not_mem_nil⟩, Tk.refl _, fun _ _ h _ => h, fun k m a e => by simp at e, fun _ h => absurd h List.not_mem_nil, fun k φ e => by simp at e⟩
    refine (body a ns h63 hb).run _ H [] o [] (L2.start N [.ref a]) H _ ⟨D0, ?_, fun i t ht => ?_⟩ ⟨fun _ _ _ _ _ h => h.elim, fun r2 M2 as2 v H2 h l d s => ?_, fun _ _ _ _ _ h => h.elim, fun _ _ _ _ _ h => h.elim⟩
    · unfold L2.start
      simp
    · cases i with
      | zero =>
        simp at ht
        subst ht
        exact ⟨.ref a, start_at (i := 0) (N := N) (vs := [.ref a]) (Nat.zero_lt_one), .v _⟩
      | succ i =>
        simp [List.getElem?_replicate] at ht
    · subst h
      cases s with
      | d z =>
        cases z
        exact q H2
end DL
namespace DL
open PySem PySem.Spec PyProof.Rows L2 DX
/-- an object is handed in and comes back changed -/
theorem proj_set {ds : List PyData} {M : Sto} {k : Nat} {m m' : MO} {x : PyData} (hk : M[k]? = some m) (hm : loM 0 m) (hm' : loM 0 m') : Proj [k] (.p k :: ds.map S.d) M (.p 0 :: ds.map S.d) [m] (.d x) [m'] (.d x) (M.set k m') := by
  have hl := (List.getElem?_eq_some_iff.mp hk).1
  have i0 : DL.inR [k] k = some 0 := by simp [DL.inR, List.idxOf?_cons]
  have o0 : outR [k] M.length 0 = some k := rfl
  exact {
    nd := by simp
    lt := fun j hj => by
      simp at hj
      subst hj
      exact hl
    args := .cons (.p i0) (Rens.data _ _)
    mc := rfl
    mi := fun i j mm e em => by
      match i with
      | 0 =>
        simp at e
        subst e
        rw [hk] at em
        cases em
        exact ⟨_, rfl, loM.ren (fun k h => absurd h (Nat.not_lt_zero _)) hm⟩
      | i + 1 => simp at e
    len := Nat.le_refl _
    len' := by simp
    r := .d x
    old := fun j h hj => by
      simp at hj
      rw [List.getElem?_set_ne (Ne.symm hj)]
    back := fun i mm j e eo => by
      match i with
      | 0 =>
        rw [o0] at eo
        cases eo
        cases e
        exact ⟨_, List.getElem?_set_self hl, loM.ren (fun k h => absurd h (Nat.not_lt_zero _)) hm'⟩
      | i + 1 => simp at e }
theorem cutS_take (ns : List Int) (n : Nat) : cutS (intsS ns) none (some (n : Int)) = intsS (ns.take n) := by
  unfold cutS
  rw [HT.sIx_nat, HT.sIx_none, Nat.sub_zero, List.drop_zero]
  show _ = (ns.take n).map fun n => S.d (.int n)
  rw [List.map_take]
  show List.take (min n (intsS ns).length) (intsS ns) = List.take n (intsS ns)
  by_cases h : n ≤ (intsS ns).length
  · rw [Nat.min_eq_left h]
  · rw [Nat.min_eq_right (by omega), List.take_of_length_le (Nat.le_refl _), List.take_of_length_le (by omega)]
end DL

namespace DL
open PySem PySem.Spec PyProof.Rows L2 DX
theorem loMs_app {n : Nat} : ∀ {A B : Sto}, loMs n A → loMs n B → loMs n (A ++ B)
  | [], _, _, h => h
  | a :: A, _, h, g => ⟨h.1, loMs_app h.2 g⟩
mutual
theorem loS_mono {n k : Nat} (h : n ≤ k) : ∀ {x : S}, loS n x → loS k x
  | .d _, _ => trivial
  | .v _, _ => trivial
  | .p j, q => Nat.lt_of_lt_of_le (show j < n from q) h
  | .t xs, q => loL_mono h (xs := xs) q
theorem loL_mono {n k : Nat} (h : n ≤ k) : ∀ {xs : List S}, loL n xs → loL k xs
  | [], _ => trivial
  | x :: xs, q => ⟨loS_mono h q.1, loL_mono h q.2⟩
end
theorem loM_mono {n k : Nat} (h : n ≤ k) : ∀ {m : MO}, loM n m → loM k m
  | .lst _, q => loL_mono h q
  | .rl _, q => loL_mono h q
  | .dk _, q => loL_mono h q
  | .dt _, q => loL_mono h q
  | .ins _ _, q => loL_mono h q
  | .xo _ _ _, q => loS_mono h q
  | .xd _, q => loL_mono h q
  | .oth _, _ => trivial
theorem loMs_mono {n k : Nat} (h : n ≤ k) : ∀ {M : Sto}, loMs n M → loMs k M
  | [], _ => trivial
  | m :: M, q => ⟨loM_mono h q.1, loMs_mono h q.2⟩
theorem loL_of {n : Nat} : ∀ {xs : List S}, (∀ x ∈ xs, loS n x) → loL n xs
  | [], _ => trivial
  | x :: xs, h => ⟨h x List.mem_cons_self, loL_of fun y hy => h y (List.mem_cons_of_mem _ hy)⟩
section
variable {c : Cs} {Γ : Gm} {M W : Sto} {tg iter elt : Expr} {ifs : List Expr} {scope : Scope} {pos : Pos}
/-- [elt for tg in iter if ..], the parts leaving the store as it is -/
theorem ex_lcP {n : Nat} {G : Sto → Prop} {it : Nat → S} (own : List (Str × Nat)) (hi : IX c Γ M tg iter n G it W) (keep : Nat → Bool) (val : Nat → S) (hG : ∀ acc, G (W ++ [.lst acc])) (hn : n < 1000000) (lo : loMs W.length W) (lv : ∀ k, k < n → keep k = true → loS W.length (val k))
    (hs : ∀ k, k < n → ∀ acc, ∃ Γ1, GW (cB c scope) (own.map (·.2)) (wipeG Γ (own.map (·.2))) (W ++ [.lst acc]) tg (it k) Γ1 ∧ EI (cB c scope) Γ1 (W ++ [.lst acc]) ifs (keep k) (W ++ [.lst acc]) ∧ (keep k = true → EX (cB c scope) Γ1 (W ++ [.lst acc]) elt (val k) (W ++ [.lst acc])))
    (ok : blkC c.N c.sc scope own = true := by kernel_rfl) (hif : ifs.length ≤ 1 := by decide) (hf : ∀ env x, foldedSetIterable iter env x = pure x := by intro _ _; rfl) : EX c Γ M (.ListComp elt [⟨tg, iter, ifs, 0⟩] scope pos) (.p W.length) (W ++ [.lst (((List.range n).filter keep).map val)]) := by
  have hl : ∀ k, k ≤ n → (((List.range k).filter keep).map val).length < 1000000 := fun k hk => by
    rw [List.length_map]
    have := List.length_filter_le keep (List.range k)
    rw [List.length_range] at this
    omega
  have hlo : ∀ k, k ≤ n → loL (W.length + 1) (((List.range k).filter keep).map val) := fun k hk => loL_of fun x hx => by
    obtain ⟨j, hj, rfl⟩ := List.mem_map.mp hx
    obtain ⟨h1, h2⟩ := List.mem_filter.mp hj
    exact loS_mono (Nat.le_succ _) (lv j (by have := List.mem_range.mp h1; omega) h2)
  have hW : ∀ acc, loL (W.length + 1) acc → loMs (W ++ [MO.lst acc]).length (W ++ [.lst acc]) := fun acc h => by
    rw [List.length_append, List.length_singleton]
    exact loMs_app (loMs_mono (Nat.le_succ _) lo) ⟨h, trivial⟩
  refine ex_lc own hi (fun k M => k ≤ n ∧ M = W ++ [.lst (((List.range k).filter keep).map val)]) ⟨Nat.zero_le _, rfl⟩ (fun k M _ h => by rw [h.2]; exact hG _) ?_ (fun M h => h.2) ok hif hf
  rintro k M hk ⟨-, rfl⟩
  obtain ⟨Γ1, g, e1, e2⟩ := hs k hk (((List.range k).filter keep).map val)
  have l2 : ∀ a b, (W ++ [MO.lst a]).length = (W ++ [MO.lst b]).length := fun _ _ => by simp
  refine ⟨Γ1, g, keep k, _, e1, fun q => ⟨_, _, e2 q, _, by simp, hl k (Nat.le_of_lt hk), ?_⟩, fun q => ?_⟩
  · refine nxtM_of (M' := W ++ [.lst (((List.range (k + 1)).filter keep).map val)]) (by simp) ?_ (by rw [l2 _ (((List.range (k + 1)).filter keep).map val)]; exact hW _ (hlo (k + 1) hk)) ⟨hk, rfl⟩
    rw [List.range_succ, List.filter_append, List.map_append]
    simp [q]
    exact List.take_of_length_le (by simp)
  · refine nxtM_of (M' := W ++ [.lst (((List.range (k + 1)).filter keep).map val)]) (Nat.le_refl _) ?_ (by rw [l2 _ (((List.range (k + 1)).filter keep).map val)]; exact hW _ (hlo (k + 1) hk)) ⟨hk, rfl⟩
    rw [List.range_succ, List.filter_append, List.map_append]
    simp [q]
    exact List.take_of_length_le (by simp)
end
end DL
namespace DL
open PySem PySem.Spec PyProof.Rows L2 DX
/-- the same, the length of the store told -/
theorem proj_shn {ds : List PyData} {r' r : S} {M Mc' M2 : Sto} (n : Nat) (hn : M.length = n) (er : shS n r' = r) (eM : M ++ shMs n Mc' = M2) : Proj [] (ds.map S.d) M (ds.map S.d) [] r' Mc' r M2 := by
  subst hn
  exact proj_sh er eM
end DL

namespace K
open PySem PySem.Spec PyProof.Rows L2 DL DX
abbrev PP : Program := PySem.Challenge.pw_siftedhome_k99_errors_by_hand
def top (i : Nat) : Stmt := PP.main.body.getD i (.Pass ⟨0, 0, 0, 0⟩)
abbrev s_mixed : Stmt := top 26
abbrev s_draw : Stmt := top 27
abbrev s_digit : Stmt := top 28
local macro_rules | `(tactic| walk_at "go") => `(tactic| first
  | exact ex_int | exact ex_str | exact ex_bool | exact ex_none
  | exact ex_var 0 | exact ex_var 1 | exact ex_var 2 | exact ex_var 3 | exact ex_var 4 | exact ex_var 5
  | (apply ex_bin <;> walk_at "go")
  | (apply ex_cmp <;> walk_at "go")
  | (apply ex_list <;> walk_at "go")
  | (apply ex_dget; (focus walk_at "go"); (focus walk_at "go"); (focus exact rfl); (focus exact (show _ = _ from rfl)); (focus exact rfl); all_goals walk_at "go")
  | (apply ex_ixL <;> walk_at "go")
  | (apply ea_cons <;> walk_at "go") | exact ea_nil
  | exact os_add | exact os_sub | (refine os_mod ?_; walk_at "go") | (refine os_div ?_; walk_at "go") | (refine os_mul ?_; walk_at "go") | (refine os_pow ?_; walk_at "go")
  | exact os_lt | exact os_le | exact os_gt | exact os_ge | exact os_eqI | exact os_neI
  | rfl | assumption | (intro _; rfl) | (intro _ _; rfl) | decide | omega | skip)
/-! ### numbers drawn -/
theorem sc_mixed : FnScope ["cell", "k", "number"] ["cell", "k"] (defScope s_mixed) := ⟨rfl, rfl, rfl, by decide +kernel, rfl, by decide +kernel, by decide +kernel⟩
def mNum (cell k m : Int) : Int := cell % m + 7919 * k + 13
def mods (k : Int) : Int := ([1000000007, 998244353, 2147483629, 1000000009] : List Int).getD (k % 4).toNat 1
def mixed (cell k : Int) : Int := mNum cell k (mods k) * mNum cell k (mods k) % 2147483647 * 48271 % 2147483647
theorem mods_at (k : Int) : atI [S.d (.int 1000000007), .d (.int 998244353), .d (.int 2147483629), .d (.int 1000000009)] (k % 4) = some (.d (.int (mods k))) := by
  have h0 : 0 ≤ k % 4 := Int.emod_nonneg _ (by decide)
  have h1 : k % 4 < 4 := Int.emod_lt_of_pos _ (by decide)
  unfold mods
  have : k % 4 = 0 ∨ k % 4 = 1 ∨ k % 4 = 2 ∨ k % 4 = 3 := by omega
  rcases this with e | e | e | e <;> rw [e] <;> rfl
theorem mods_pos (k : Int) : 0 < mods k ∧ mods k ≤ 2147483647 := by
  have h0 : 0 ≤ k % 4 := Int.emod_nonneg _ (by decide)
  have h1 : k % 4 < 4 := Int.emod_lt_of_pos _ (by decide)
  unfold mods
  have : k % 4 = 0 ∨ k % 4 = 1 ∨ k % 4 = 2 ∨ k % 4 = 3 := by omega
  rcases this with e | e | e | e <;> rw [e] <;> decide
theorem mNum_b {cell k m : Int} (h : 0 < m ∧ m ≤ 2147483647) (h0 : 0 ≤ k) (h1 : k ≤ 1000000000000) : 0 ≤ mNum cell k m ∧ mNum cell k m < 10000000000000000 := by
  unfold mNum
  have := Int.emod_nonneg cell (by omega : m ≠ 0)
  have := Int.emod_lt_of_pos cell h.1
  omega
def Rmixed : Rl := fun args M r M' => ∃ cell k : Int, args = [.d (.int cell), .d (.int k)] ∧ 0 ≤ k ∧ k ≤ 1000000000000 ∧ M = [] ∧ r = .d (.int (mixed cell k)) ∧ M' = []
theorem ok_mixed {m : Ms} (h : HasD m "_law_mixed" s_mixed ["cell", "k"]) : FnD m 1 "_law_mixed" ["cell", "k"] Rmixed := by
  refine fnD_of h sc_mixed (by decide) ?_
  rintro args M r M' - ⟨cell, k, rfl, h0, h1, rfl, rfl, rfl⟩
  have hix := mods_at k
  have hm := mods_pos k
  have hb := mNum_b (cell := cell) hm h0 h1
  unfold mixed
  generalize mods k = mm at hix hm hb ⊢
  have e : mNum cell k mm = cell % mm + 7919 * k + 13 := rfl
  rw [e] at hb ⊢
  generalize en : cell % mm + 7919 * k + 13 = nn at hb ⊢
  have hmm := hm.1
  show BX _ _ _ (defBody s_mixed) _
  refine bx_cons ?_
  apply sx_set 2
  · walk_at "go"
    exact .inl ⟨by decide, by decide⟩
  · rw [en]
    refine bx_one ?_
    apply sx_ret
    · walk_at "go"
      · exact .inl ⟨by omega, by omega⟩
      · exact .inr ⟨by decide, by decide⟩
    · exact fin0
/-- the state of the draws: what is left, the cell, the turns -/
structure St3 where
  L : Int
  c : Int
  t : Int
abbrev stM (s : St3) : MO := .dk [(.inr "left", .d (.int s.L)), (.inr "cell", .d (.int s.c)), (.inr "turns", .d (.int s.t))]
theorem stM_fr (s : St3) : FrM (stM s) := .dk fun x hx => by
  simp only [List.mem_cons, List.not_mem_nil, or_false] at hx
  rcases hx with rfl | rfl | rfl <;> exact .d _
def st0 (cell k : Int) : St3 := ⟨if 10 ^ 18 ≤ cell then cell else 0, cell, 1000 * k⟩
theorem sc_draw : FnScope ["cell", "k"] ["cell", "k"] (defScope s_draw) := ⟨rfl, rfl, rfl, by decide +kernel, rfl, by decide +kernel, by decide +kernel⟩
def Rdraw : Rl := fun args M r M' => ∃ cell k : Int, args = [.d (.int cell), .d (.int k)] ∧ 0 ≤ k ∧ k ≤ 1000000 ∧ M = [] ∧ r = .p 0 ∧ M' = [stM (st0 cell k)]
theorem ok_draw {m : Ms} (h : HasD m "_law_draw" s_draw ["cell", "k"]) : FnD m 1 "_law_draw" ["cell", "k"] Rdraw := by
  refine fnD_of h sc_draw (by decide) ?_
  rintro args M r M' - ⟨cell, k, rfl, h0, h1, rfl, rfl, rfl⟩
  show BX _ _ _ (defBody s_draw) _
  refine bx_one ?_
  apply sx_ret
  · apply ex_disp
    · refine .cons ex_str (show _ = _ from rfl) (ex_if (q := decide ((10 : Int) ^ 18 ≤ cell)) (r := .d (.int (st0 cell k).L)) (M1 := [.dk []]) (M2 := [.dk []]) ?_ ?_ ?_) (.cons ex_str (show _ = _ from rfl) (ex_var 0) (.cons ex_str (show _ = _ from rfl) (M2 := [.dk []]) (y := .d (.int (1000 * k))) ?_ .nil))
      · apply et_cmp
        · exact ex_var 0
        · walk_at "go"
          exact ⟨by decide, by decide, by decide⟩
        · exact os_ge
        · exact nomark _
      · intro q
        have e : (st0 cell k).L = cell := if_pos (of_decide_eq_true q)
        rw [e]
        exact ex_var 0
      · intro q
        have e : (st0 cell k).L = 0 := if_neg (of_decide_eq_false q)
        rw [e]
        exact ex_int
      · walk_at "go"
        exact .inl ⟨by decide, by decide⟩
    · rfl
    · exact fun z => by cases z
    · exact Nat.le_of_ble_eq_true rfl
  · exact fin_p (k := 0) (Nat.le_refl _) rfl rfl fun m hm => by
      simp only [List.length_nil, List.take_zero, List.nil_append, List.mem_singleton] at hm
      subst hm
      exact stM_fr (st0 cell k)

def fillN (c t : Int) : Nat → Int
  | 0 => 0
  | j + 1 => fillN c t j * 2147483647 + mixed c (t + (j : Int) + 1)
/-- what is left ahead of a draw -/
def St3.F (s : St3) : Int := if s.L = 0 then fillN s.c s.t 4 else s.L
def dg (s : St3) (b : Int) : Int := s.F % b
def nx (s : St3) (b : Int) : St3 := ⟨s.F / b, s.c, if s.L = 0 then s.t + 4 else s.t⟩
theorem dg_b (s : St3) {b : Int} (h : 0 < b) : 0 ≤ dg s b ∧ dg s b < b := ⟨Int.emod_nonneg _ (by omega), Int.emod_lt_of_pos _ h⟩
theorem nx_t (s : St3) (b : Int) : s.t ≤ (nx s b).t ∧ (nx s b).t ≤ s.t + 4 := by
  show s.t ≤ (if s.L = 0 then s.t + 4 else s.t) ∧ (if s.L = 0 then s.t + 4 else s.t) ≤ s.t + 4
  split <;> omega
theorem sc_digit : FnScope ["state", "below", "j", "found"] ["state", "below"] (defScope s_digit) := ⟨rfl, rfl, rfl, by decide +kernel, rfl, by decide +kernel, by decide +kernel⟩
def Rdigit : Rl := fun args M r M' => ∃ (s : St3) (b : Int), args = [.p 0, .d (.int b)] ∧ 0 < b ∧ b < 1073741824 ∧ 0 ≤ s.t ∧ s.t ≤ 100000000 ∧ M = [stM s] ∧ r = .d (.int (dg s b)) ∧ M' = [stM (nx s b)]
theorem ok_digit {m : Ms} (h : HasD m "_law_digit" s_digit ["state", "below"]) (hr : m.mg "range" = none) (D : FnD m 1 "_law_mixed" ["cell", "k"] Rmixed) : FnD m 2 "_law_digit" ["state", "below"] Rdigit := by
  refine fnD_of h sc_digit (by decide) ?_
  rintro args M r M' - ⟨s, b, rfl, hb0, hb1, ht0, ht1, rfl, rfl, rfl⟩
  obtain ⟨L, c, t⟩ := s
  dsimp only at ht0 ht1
  show BX _ _ _ (defBody s_digit) _
  refine bx_cons ?_
  have tail : ∀ (z1 : Option S) (L1 c1 t1 : Int), nx ⟨L, c, t⟩ b = ⟨L1 / b, c1, t1⟩ → dg ⟨L, c, t⟩ b = L1 % b → BX (m.cs ["state", "below", "j", "found"] (defScope s_digit) 1) [some (.p 0), some (.d (.int b)), z1, none] [stM ⟨L1, c1, t1⟩] ((defBody s_digit).drop 1)
      { nx := fun _ M'' => Fin 1 (.d .none) M'' (.d (.int (dg ⟨L, c, t⟩ b))) [stM (nx ⟨L, c, t⟩ b)], rt := fun r' M'' => Fin 1 r' M'' (.d (.int (dg ⟨L, c, t⟩ b))) [stM (nx ⟨L, c, t⟩ b)] } := by
    intro z1 L1 c1 t1 e1 e2
    rw [e1, e2]
    refine bx_cons ?_
    apply sx_set 3
    · walk_at "go"
    · refine bx_cons ?_
      apply sx_dput
      · walk_at "go"
      · walk_at "go"
      · walk_at "go"
      · rfl
      · rfl
      · exact Nat.le_of_ble_eq_true rfl
      · refine bx_one ?_
        apply sx_ret
        · exact ex_var 3
        · exact fin_d (Nat.le_refl _) rfl fun m hm => by
            simp only [List.mem_singleton] at hm
            subst hm
            exact stM_fr ⟨L1 / b, c1, t1⟩
      · intro _ _
        rfl
  apply sx_if (q := decide (L = 0))
  · apply et_cmp
    · walk_at "go"
    · walk_at "go"
    · exact os_eqI
    · exact nomark _
  · intro q
    have q0 : L = 0 := of_decide_eq_true q
    refine bx_one ?_
    refine sx_for (ix_range1 ex_int (hm := hr)) (fun j Γ M => ∃ z, Γ = [some (.p 0), some (.d (.int b)), z, none] ∧ M = [stM ⟨fillN c t j, c, t + (j : Int)⟩]) ⟨_, Fg.refl _, none, rfl, ?_⟩ (fun _ _ _ _ _ => trivial) ?_ ?_
    · rw [q0]
      show _ = [stM ⟨0, c, t + ((0 : Nat) : Int)⟩]
      rw [show t + ((0 : Nat) : Int) = t from by omega]
    · rintro j Γ M hj ⟨z, rfl, rfl⟩
      refine ⟨_, _, gx_name 2, ?_⟩
      have hj4 : j < 4 := hj
      refine bx_cons ?_
      apply sx_dput
      · walk_at "go"
      · walk_at "go"
      · walk_at "go"
      · rfl
      · rfl
      · exact Nat.le_of_ble_eq_true rfl
      · refine bx_one ?_
        apply sx_dput
        · apply ex_bin
          · walk_at "go"
            exact .inr ⟨by decide, by decide⟩
          · refine ex_call [] D (M1 := [stM ⟨fillN c t j, c, t + (j : Int) + 1⟩]) (rs := [.d (.int c), .d (.int (t + (j : Int) + 1))]) ?_ ⟨c, t + (j : Int) + 1, rfl, by omega, by omega, rfl, rfl, rfl⟩ (proj_d (ds := [.int c, .int (t + (j : Int) + 1)])) rfl
            walk_at "go"
          · exact os_add
        · walk_at "go"
        · walk_at "go"
        · rfl
        · rfl
        · exact Nat.le_of_ble_eq_true rfl
        · refine nxt_of (Γ' := [some (.p 0), some (.d (.int b)), some (.d (.int (j : Nat))), none]) (M' := [stM ⟨fillN c t (j + 1), c, t + ((j + 1 : Nat) : Int)⟩]) (Nat.le_refl _) ?_ ⟨⟨trivial, trivial, trivial, trivial⟩, trivial⟩ ⟨rfl, rfl, rfl, trivial⟩ ⟨Nat.zero_lt_one, trivial, trivial, trivial⟩ ⟨_, rfl, rfl⟩
          rw [show t + ((j + 1 : Nat) : Int) = t + (j : Int) + 1 from by omega]
          rfl
        · intro _ _
          rfl
      · intro _ _
        rfl
    · rintro Γ M ⟨z, rfl, rfl⟩
      refine tail z _ _ _ ?_ ?_
      · show (⟨St3.F ⟨L, c, t⟩ / b, c, if L = 0 then t + 4 else t⟩ : St3) = _
        unfold St3.F
        rw [if_pos q0, if_pos q0]
        rfl
      · show St3.F ⟨L, c, t⟩ % b = _
        unfold St3.F
        rw [if_pos q0]
        rfl
  · intro q
    have q0 : ¬ L = 0 := of_decide_eq_false q
    refine bx_nil ?_
    refine tail none _ _ _ ?_ ?_
    · show (⟨St3.F ⟨L, c, t⟩ / b, c, if L = 0 then t + 4 else t⟩ : St3) = _
      unfold St3.F
      rw [if_neg q0, if_neg q0]
    · show St3.F ⟨L, c, t⟩ % b = _
      unfold St3.F
      rw [if_neg q0]
end K

namespace K
open PySem PySem.Spec PyProof.Rows L2 DL DX
theorem OS.to {c : Cs} {f : Value → Value → Sem Value} {x y r r' : S} {M M1 M' : Sto} (h : OS c f x y M r M1) (hr : r = r') (hM : M1 = M') : OS c f x y M r' M' := by subst hr hM; exact h
def cnm : List Str := ["BadColours", "BadDeed", "BadGlue", "BadLadder", "BadMacros", "BadNumber", "BadOrders", "BadPaper", "BadPerm", "BadPieces", "BadPrices", "BadPuzzle", "BadRecipe", "BadReplay", "BadRow", "BadStages", "BadSystem", "BadTask", "BadText", "BadWeb", "BadWord", "NoSuch", "TooMany", "HomeError"]
def wnm : List Str := ["BadColours", "BadDeed", "BadGlue", "BadLadder", "BadMacros", "BadNumber", "BadOrders", "BadPaper", "BadPerm", "BadPieces", "BadPrices", "BadPuzzle", "BadRecipe", "BadReplay", "BadRow", "BadStages", "BadSystem", "BadTask", "BadText", "BadWeb", "BadWord", "NoSuch", "TooMany", "home", "value", "lookup", "overflow"]
def tgU (cs : Nat → Addr) (j : Nat) : Value := if j < 24 then .ref (cs j) else .type (["ValueError", "LookupError", "OverflowError"].getD (j - 24) "")
/-- what the text's head has written: the classes stand at cs; the i-th one's answers are b i -/
structure KF (m : Ms) (cs : Nat → Addr) (b : Nat → Nat → Bool) : Prop where
  mg : ∀ j, j < 24 → m.mg (cnm.getD j "") = some (.ref (cs j))
  q : ∀ i, i < 23 → XqC m.K (cs i)
  g : XqG m.K
  kit : ∀ i j, i < 23 → j < 27 → PySem.W.kitOne m.K (.ref (cs i)) (tgU cs j) = some (b i j)
  isi : m.mg "isinstance" = none
  vE : m.mg "ValueError" = none
  lE : m.mg "LookupError" = none
  oE : m.mg "OverflowError" = none
theorem ex_isx_own {c : Cs} {Γ : Gm} {M M1 : Sto} {e : Expr} {x msg : Str} {C a : Addr} {k j : Nat} {fs : List (Str × S)} {b : Bool} {p p2 pos : Pos} (T : XqC c.K C) (G : XqG c.K) (he : EX c Γ M e (.p k) M1) (h1 : M1[k]? = some (.xo C msg (.p j))) (h2 : M1[j]? = some (.xd fs))
    (hm : c.mg x = some (.ref a)) (hb : PySem.W.kitOne c.K (.ref C) (.ref a) = some b) (hi : c.mg "isinstance" = none) (hx : c.sc.names.lookup x = some gI := by rfl) (hd : (x == ("__debug__" : Str)) = false := by decide) (hs : ∀ env, starEach [e, .Name x p2] env = (false, eval e env) :: starEach [.Name x p2] env := by intro _; rfl)
    (hg : c.sc.names.lookup ("isinstance" : Str) = some gI := by rfl) : EX c Γ M (.Call (.Name "isinstance" p) [e, .Name x p2] [] pos) (.d (.bool b)) M1 :=
  ex_callB (cs_isx T G h1 h2 (.own a) hb) (ea_cons he (ea_cons (ex_glob hx hm (v := .ref a) rfl (fun _ _ => .v _) hd) ea_nil) hs) hi rfl (hg := hg) (he := hs)
theorem ex_isx_ty {c : Cs} {Γ : Gm} {M M1 : Sto} {e : Expr} {x msg : Str} {C : Addr} {n : String} {k j : Nat} {fs : List (Str × S)} {b : Bool} {p p2 pos : Pos} (T : XqC c.K C) (G : XqG c.K) (he : EX c Γ M e (.p k) M1) (h1 : M1[k]? = some (.xo C msg (.p j))) (h2 : M1[j]? = some (.xd fs))
    (hm : c.mg x = none) (hbb : bootBuiltins x = some (.type n)) (hb : PySem.W.kitOne c.K (.ref C) (.type n) = some b) (hi : c.mg "isinstance" = none) (hx : c.sc.names.lookup x = some gI := by rfl) (hn : x ≠ "__name__" := by decide) (hd : (x == ("__debug__" : Str)) = false := by decide)
    (hs : ∀ env, starEach [e, .Name x p2] env = (false, eval e env) :: starEach [.Name x p2] env := by intro _; rfl) (hg : c.sc.names.lookup ("isinstance" : Str) = some gI := by rfl) : EX c Γ M (.Call (.Name "isinstance" p) [e, .Name x p2] [] pos) (.d (.bool b)) M1 :=
  ex_callB (cs_isx T G h1 h2 (.ty n) hb) (ea_cons he (ea_cons (ex_blt hx hm hbb (v := .ty n) rfl hn hd) ea_nil) hs) hi rfl (hg := hg) (he := hs)
theorem ex_to {c : Cs} {Γ : Gm} {M M1 M2 : Sto} {e : Expr} {r s : S} (h : EX c Γ M e r M1) (hr : r = s) (hM : M1 = M2) : EX c Γ M e s M2 := by subst hr hM; exact h
abbrev s_kinds : Stmt := top 29
theorem sc_kinds : FnScope ["e", "some", "word", "is_so"] ["e"] (defScope s_kinds) := ⟨rfl, rfl, rfl, by decide +kernel, rfl, by decide +kernel, by decide +kernel⟩
def kAcc (b : Nat → Bool) (k : Nat) : List S := ((List.range k).filter b).map fun j => .d (.str (wnm.getD j ""))
def Rkinds (cs : Nat → Addr) (b : Nat → Nat → Bool) : Rl := fun args M r M' => ∃ (i : Nat) (msg f : Str) (x : PyData), i < 23 ∧ args = [.p 1] ∧ M = [.xd [(f, .d x)], .xo (cs i) msg (.p 0)] ∧ r = .p 2 ∧ M' = [.xd [(f, .d x)], .xo (cs i) msg (.p 0), .lst (kAcc (b i) 27)]
def sL0 (bb : Nat → Bool) : List S := ([] : List PyData).map S.d
def sL2 (bb : Nat → Bool) : List S := ([.tuple [.str "BadColours", .bool (bb 0)], .tuple [.str "BadDeed", .bool (bb 1)]] : List PyData).map S.d
def sL4 (bb : Nat → Bool) : List S := ([.tuple [.str "BadColours", .bool (bb 0)], .tuple [.str "BadDeed", .bool (bb 1)], .tuple [.str "BadGlue", .bool (bb 2)], .tuple [.str "BadLadder", .bool (bb 3)]] : List PyData).map S.d
def sL6 (bb : Nat → Bool) : List S := ([.tuple [.str "BadColours", .bool (bb 0)], .tuple [.str "BadDeed", .bool (bb 1)], .tuple [.str "BadGlue", .bool (bb 2)], .tuple [.str "BadLadder", .bool (bb 3)], .tuple [.str "BadMacros", .bool (bb 4)], .tuple [.str "BadNumber", .bool (bb 5)]] : List PyData).map S.d
def sL8 (bb : Nat → Bool) : List S := ([.tuple [.str "BadColours", .bool (bb 0)], .tuple [.str "BadDeed", .bool (bb 1)], .tuple [.str "BadGlue", .bool (bb 2)], .tuple [.str "BadLadder", .bool (bb 3)], .tuple [.str "BadMacros", .bool (bb 4)], .tuple [.str "BadNumber", .bool (bb 5)], .tuple [.str "BadOrders", .bool (bb 6)], .tuple [.str "BadPaper", .bool (bb 7)]] : List PyData).map S.d
def sL10 (bb : Nat → Bool) : List S := ([.tuple [.str "BadColours", .bool (bb 0)], .tuple [.str "BadDeed", .bool (bb 1)], .tuple [.str "BadGlue", .bool (bb 2)], .tuple [.str "BadLadder", .bool (bb 3)], .tuple [.str "BadMacros", .bool (bb 4)], .tuple [.str "BadNumber", .bool (bb 5)], .tuple [.str "BadOrders", .bool (bb 6)], .tuple [.str "BadPaper", .bool (bb 7)], .tuple [.str "BadPerm", .bool (bb 8)], .tuple [.str "BadPieces", .bool (bb 9)]] : List PyData).map S.d
def sL12 (bb : Nat → Bool) : List S := ([.tuple [.str "BadColours", .bool (bb 0)], .tuple [.str "BadDeed", .bool (bb 1)], .tuple [.str "BadGlue", .bool (bb 2)], .tuple [.str "BadLadder", .bool (bb 3)], .tuple [.str "BadMacros", .bool (bb 4)], .tuple [.str "BadNumber", .bool (bb 5)], .tuple [.str "BadOrders", .bool (bb 6)], .tuple [.str "BadPaper", .bool (bb 7)], .tuple [.str "BadPerm", .bool (bb 8)], .tuple [.str "BadPieces", .bool (bb 9)], .tuple [.str "BadPrices", .bool (bb 10)], .tuple [.str "BadPuzzle", .bool (bb 11)]] : List PyData).map S.d
def sL14 (bb : Nat → Bool) : List S := ([.tuple [.str "BadColours", .bool (bb 0)], .tuple [.str "BadDeed", .bool (bb 1)], .tuple [.str "BadGlue", .bool (bb 2)], .tuple [.str "BadLadder", .bool (bb 3)], .tuple [.str "BadMacros", .bool (bb 4)], .tuple [.str "BadNumber", .bool (bb 5)], .tuple [.str "BadOrders", .bool (bb 6)], .tuple [.str "BadPaper", .bool (bb 7)], .tuple [.str "BadPerm", .bool (bb 8)], .tuple [.str "BadPieces", .bool (bb 9)], .tuple [.str "BadPrices", .bool (bb 10)], .tuple [.str "BadPuzzle", .bool (bb 11)], .tuple [.str "BadRecipe", .bool (bb 12)], .tuple [.str "BadReplay", .bool (bb 13)]] : List PyData).map S.d
def sL16 (bb : Nat → Bool) : List S := ([.tuple [.str "BadColours", .bool (bb 0)], .tuple [.str "BadDeed", .bool (bb 1)], .tuple [.str "BadGlue", .bool (bb 2)], .tuple [.str "BadLadder", .bool (bb 3)], .tuple [.str "BadMacros", .bool (bb 4)], .tuple [.str "BadNumber", .bool (bb 5)], .tuple [.str "BadOrders", .bool (bb 6)], .tuple [.str "BadPaper", .bool (bb 7)], .tuple [.str "BadPerm", .bool (bb 8)], .tuple [.str "BadPieces", .bool (bb 9)], .tuple [.str "BadPrices", .bool (bb 10)], .tuple [.str "BadPuzzle", .bool (bb 11)], .tuple [.str "BadRecipe", .bool (bb 12)], .tuple [.str "BadReplay", .bool (bb 13)], .tuple [.str "BadRow", .bool (bb 14)], .tuple [.str "BadStages", .bool (bb 15)]] : List PyData).map S.d
def sL18 (bb : Nat → Bool) : List S := ([.tuple [.str "BadColours", .bool (bb 0)], .tuple [.str "BadDeed", .bool (bb 1)], .tuple [.str "BadGlue", .bool (bb 2)], .tuple [.str "BadLadder", .bool (bb 3)], .tuple [.str "BadMacros", .bool (bb 4)], .tuple [.str "BadNumber", .bool (bb 5)], .tuple [.str "BadOrders", .bool (bb 6)], .tuple [.str "BadPaper", .bool (bb 7)], .tuple [.str "BadPerm", .bool (bb 8)], .tuple [.str "BadPieces", .bool (bb 9)], .tuple [.str "BadPrices", .bool (bb 10)], .tuple [.str "BadPuzzle", .bool (bb 11)], .tuple [.str "BadRecipe", .bool (bb 12)], .tuple [.str "BadReplay", .bool (bb 13)], .tuple [.str "BadRow", .bool (bb 14)], .tuple [.str "BadStages", .bool (bb 15)], .tuple [.str "BadSystem", .bool (bb 16)], .tuple [.str "BadTask", .bool (bb 17)]] : List PyData).map S.d
def sL20 (bb : Nat → Bool) : List S := ([.tuple [.str "BadColours", .bool (bb 0)], .tuple [.str "BadDeed", .bool (bb 1)], .tuple [.str "BadGlue", .bool (bb 2)], .tuple [.str "BadLadder", .bool (bb 3)], .tuple [.str "BadMacros", .bool (bb 4)], .tuple [.str "BadNumber", .bool (bb 5)], .tuple [.str "BadOrders", .bool (bb 6)], .tuple [.str "BadPaper", .bool (bb 7)], .tuple [.str "BadPerm", .bool (bb 8)], .tuple [.str "BadPieces", .bool (bb 9)], .tuple [.str "BadPrices", .bool (bb 10)], .tuple [.str "BadPuzzle", .bool (bb 11)], .tuple [.str "BadRecipe", .bool (bb 12)], .tuple [.str "BadReplay", .bool (bb 13)], .tuple [.str "BadRow", .bool (bb 14)], .tuple [.str "BadStages", .bool (bb 15)], .tuple [.str "BadSystem", .bool (bb 16)], .tuple [.str "BadTask", .bool (bb 17)], .tuple [.str "BadText", .bool (bb 18)], .tuple [.str "BadWeb", .bool (bb 19)]] : List PyData).map S.d
def sL22 (bb : Nat → Bool) : List S := ([.tuple [.str "BadColours", .bool (bb 0)], .tuple [.str "BadDeed", .bool (bb 1)], .tuple [.str "BadGlue", .bool (bb 2)], .tuple [.str "BadLadder", .bool (bb 3)], .tuple [.str "BadMacros", .bool (bb 4)], .tuple [.str "BadNumber", .bool (bb 5)], .tuple [.str "BadOrders", .bool (bb 6)], .tuple [.str "BadPaper", .bool (bb 7)], .tuple [.str "BadPerm", .bool (bb 8)], .tuple [.str "BadPieces", .bool (bb 9)], .tuple [.str "BadPrices", .bool (bb 10)], .tuple [.str "BadPuzzle", .bool (bb 11)], .tuple [.str "BadRecipe", .bool (bb 12)], .tuple [.str "BadReplay", .bool (bb 13)], .tuple [.str "BadRow", .bool (bb 14)], .tuple [.str "BadStages", .bool (bb 15)], .tuple [.str "BadSystem", .bool (bb 16)], .tuple [.str "BadTask", .bool (bb 17)], .tuple [.str "BadText", .bool (bb 18)], .tuple [.str "BadWeb", .bool (bb 19)], .tuple [.str "BadWord", .bool (bb 20)], .tuple [.str "NoSuch", .bool (bb 21)]] : List PyData).map S.d
def sL24 (bb : Nat → Bool) : List S := ([.tuple [.str "BadColours", .bool (bb 0)], .tuple [.str "BadDeed", .bool (bb 1)], .tuple [.str "BadGlue", .bool (bb 2)], .tuple [.str "BadLadder", .bool (bb 3)], .tuple [.str "BadMacros", .bool (bb 4)], .tuple [.str "BadNumber", .bool (bb 5)], .tuple [.str "BadOrders", .bool (bb 6)], .tuple [.str "BadPaper", .bool (bb 7)], .tuple [.str "BadPerm", .bool (bb 8)], .tuple [.str "BadPieces", .bool (bb 9)], .tuple [.str "BadPrices", .bool (bb 10)], .tuple [.str "BadPuzzle", .bool (bb 11)], .tuple [.str "BadRecipe", .bool (bb 12)], .tuple [.str "BadReplay", .bool (bb 13)], .tuple [.str "BadRow", .bool (bb 14)], .tuple [.str "BadStages", .bool (bb 15)], .tuple [.str "BadSystem", .bool (bb 16)], .tuple [.str "BadTask", .bool (bb 17)], .tuple [.str "BadText", .bool (bb 18)], .tuple [.str "BadWeb", .bool (bb 19)], .tuple [.str "BadWord", .bool (bb 20)], .tuple [.str "NoSuch", .bool (bb 21)], .tuple [.str "TooMany", .bool (bb 22)], .tuple [.str "home", .bool (bb 23)]] : List PyData).map S.d
def sL26 (bb : Nat → Bool) : List S := ([.tuple [.str "BadColours", .bool (bb 0)], .tuple [.str "BadDeed", .bool (bb 1)], .tuple [.str "BadGlue", .bool (bb 2)], .tuple [.str "BadLadder", .bool (bb 3)], .tuple [.str "BadMacros", .bool (bb 4)], .tuple [.str "BadNumber", .bool (bb 5)], .tuple [.str "BadOrders", .bool (bb 6)], .tuple [.str "BadPaper", .bool (bb 7)], .tuple [.str "BadPerm", .bool (bb 8)], .tuple [.str "BadPieces", .bool (bb 9)], .tuple [.str "BadPrices", .bool (bb 10)], .tuple [.str "BadPuzzle", .bool (bb 11)], .tuple [.str "BadRecipe", .bool (bb 12)], .tuple [.str "BadReplay", .bool (bb 13)], .tuple [.str "BadRow", .bool (bb 14)], .tuple [.str "BadStages", .bool (bb 15)], .tuple [.str "BadSystem", .bool (bb 16)], .tuple [.str "BadTask", .bool (bb 17)], .tuple [.str "BadText", .bool (bb 18)], .tuple [.str "BadWeb", .bool (bb 19)], .tuple [.str "BadWord", .bool (bb 20)], .tuple [.str "NoSuch", .bool (bb 21)], .tuple [.str "TooMany", .bool (bb 22)], .tuple [.str "home", .bool (bb 23)], .tuple [.str "value", .bool (bb 24)], .tuple [.str "lookup", .bool (bb 25)]] : List PyData).map S.d
def sL27 (bb : Nat → Bool) : List S := ([.tuple [.str "BadColours", .bool (bb 0)], .tuple [.str "BadDeed", .bool (bb 1)], .tuple [.str "BadGlue", .bool (bb 2)], .tuple [.str "BadLadder", .bool (bb 3)], .tuple [.str "BadMacros", .bool (bb 4)], .tuple [.str "BadNumber", .bool (bb 5)], .tuple [.str "BadOrders", .bool (bb 6)], .tuple [.str "BadPaper", .bool (bb 7)], .tuple [.str "BadPerm", .bool (bb 8)], .tuple [.str "BadPieces", .bool (bb 9)], .tuple [.str "BadPrices", .bool (bb 10)], .tuple [.str "BadPuzzle", .bool (bb 11)], .tuple [.str "BadRecipe", .bool (bb 12)], .tuple [.str "BadReplay", .bool (bb 13)], .tuple [.str "BadRow", .bool (bb 14)], .tuple [.str "BadStages", .bool (bb 15)], .tuple [.str "BadSystem", .bool (bb 16)], .tuple [.str "BadTask", .bool (bb 17)], .tuple [.str "BadText", .bool (bb 18)], .tuple [.str "BadWeb", .bool (bb 19)], .tuple [.str "BadWord", .bool (bb 20)], .tuple [.str "NoSuch", .bool (bb 21)], .tuple [.str "TooMany", .bool (bb 22)], .tuple [.str "home", .bool (bb 23)], .tuple [.str "value", .bool (bb 24)], .tuple [.str "lookup", .bool (bb 25)], .tuple [.str "overflow", .bool (bb 26)]] : List PyData).map S.d
def pL0 (bb : Nat → Bool) : List S := ([.tuple [.str "BadColours", .bool (bb 0)], .tuple [.str "BadDeed", .bool (bb 1)]] : List PyData).map S.d
def pL1 (bb : Nat → Bool) : List S := ([.tuple [.str "BadGlue", .bool (bb 2)], .tuple [.str "BadLadder", .bool (bb 3)]] : List PyData).map S.d
def pL2 (bb : Nat → Bool) : List S := ([.tuple [.str "BadMacros", .bool (bb 4)], .tuple [.str "BadNumber", .bool (bb 5)]] : List PyData).map S.d
def pL3 (bb : Nat → Bool) : List S := ([.tuple [.str "BadOrders", .bool (bb 6)], .tuple [.str "BadPaper", .bool (bb 7)]] : List PyData).map S.d
def pL4 (bb : Nat → Bool) : List S := ([.tuple [.str "BadPerm", .bool (bb 8)], .tuple [.str "BadPieces", .bool (bb 9)]] : List PyData).map S.d
def pL5 (bb : Nat → Bool) : List S := ([.tuple [.str "BadPrices", .bool (bb 10)], .tuple [.str "BadPuzzle", .bool (bb 11)]] : List PyData).map S.d
def pL6 (bb : Nat → Bool) : List S := ([.tuple [.str "BadRecipe", .bool (bb 12)], .tuple [.str "BadReplay", .bool (bb 13)]] : List PyData).map S.d
def pL7 (bb : Nat → Bool) : List S := ([.tuple [.str "BadRow", .bool (bb 14)], .tuple [.str "BadStages", .bool (bb 15)]] : List PyData).map S.d
def pL8 (bb : Nat → Bool) : List S := ([.tuple [.str "BadSystem", .bool (bb 16)], .tuple [.str "BadTask", .bool (bb 17)]] : List PyData).map S.d
def pL9 (bb : Nat → Bool) : List S := ([.tuple [.str "BadText", .bool (bb 18)], .tuple [.str "BadWeb", .bool (bb 19)]] : List PyData).map S.d
def pL10 (bb : Nat → Bool) : List S := ([.tuple [.str "BadWord", .bool (bb 20)], .tuple [.str "NoSuch", .bool (bb 21)]] : List PyData).map S.d
def pL11 (bb : Nat → Bool) : List S := ([.tuple [.str "TooMany", .bool (bb 22)], .tuple [.str "home", .bool (bb 23)]] : List PyData).map S.d
def pL12 (bb : Nat → Bool) : List S := ([.tuple [.str "value", .bool (bb 24)], .tuple [.str "lookup", .bool (bb 25)]] : List PyData).map S.d
theorem it_kinds (bb : Nat → Bool) (k : Nat) (h : k < 27) : (sL27 bb).getD k (.d .none) = .d (.tuple [.str (wnm.getD k ""), .bool (bb k)]) := by
  match k, h with
  | 0, _ => rfl
  | 1, _ => rfl
  | 2, _ => rfl
  | 3, _ => rfl
  | 4, _ => rfl
  | 5, _ => rfl
  | 6, _ => rfl
  | 7, _ => rfl
  | 8, _ => rfl
  | 9, _ => rfl
  | 10, _ => rfl
  | 11, _ => rfl
  | 12, _ => rfl
  | 13, _ => rfl
  | 14, _ => rfl
  | 15, _ => rfl
  | 16, _ => rfl
  | 17, _ => rfl
  | 18, _ => rfl
  | 19, _ => rfl
  | 20, _ => rfl
  | 21, _ => rfl
  | 22, _ => rfl
  | 23, _ => rfl
  | 24, _ => rfl
  | 25, _ => rfl
  | 26, _ => rfl
  | n + 27, h => exact absurd h (Nat.not_lt.mpr (Nat.le_add_left 27 n))
theorem kAcc_succ (b : Nat → Bool) (k : Nat) : kAcc b (k + 1) = if b k = true then kAcc b k ++ [.d (.str (wnm.getD k ""))] else kAcc b k := by
  unfold kAcc
  rw [List.range_succ, List.filter_append, List.map_append]
  by_cases h : b k = true
  · rw [if_pos h]
    simp [h]
  · rw [if_neg h]
    simp [h]
theorem kAcc_len (b : Nat → Bool) (k : Nat) (h : k < 27) : (kAcc b k).length < 1000000 := by
  unfold kAcc
  rw [List.length_map]
  have := List.length_filter_le b (List.range k)
  rw [List.length_range] at this
  omega
theorem lo_map {α : Type} (n : Nat) (g : α → PyData) : ∀ l : List α, loL n (l.map fun j => .d (g j))
  | [] => trivial
  | x :: l => ⟨trivial, lo_map n g l⟩
theorem lo_data (n : Nat) : ∀ l : List PyData, loL n (l.map S.d)
  | [] => trivial
  | x :: l => ⟨trivial, lo_data n l⟩
theorem kAcc_lo (b : Nat → Bool) (k n : Nat) : loM n (.lst (kAcc b k)) := lo_map n _ _
theorem ok_kinds {m : Ms} {cs : Nat → Addr} {b : Nat → Nat → Bool} (h : HasD m "_law_kinds" s_kinds ["e"]) (F : KF m cs b) : FnD m 1 "_law_kinds" ["e"] (Rkinds cs b) := by
  refine fnD_of h sc_kinds (by decide) ?_
  rintro args M r M' - ⟨i, msg, f, x, hi, rfl, rfl, rfl, rfl⟩
  have T := F.q i hi
  have G := F.g
  have isi := F.isi
  have g0 : m.mg "BadColours" = some (.ref (cs 0)) := F.mg 0 (by decide)
  have k0 : PySem.W.kitOne m.K (.ref (cs i)) (.ref (cs 0)) = some (b i 0) := F.kit i 0 hi (by decide)
  have g1 : m.mg "BadDeed" = some (.ref (cs 1)) := F.mg 1 (by decide)
  have k1 : PySem.W.kitOne m.K (.ref (cs i)) (.ref (cs 1)) = some (b i 1) := F.kit i 1 hi (by decide)
  have g2 : m.mg "BadGlue" = some (.ref (cs 2)) := F.mg 2 (by decide)
  have k2 : PySem.W.kitOne m.K (.ref (cs i)) (.ref (cs 2)) = some (b i 2) := F.kit i 2 hi (by decide)
  have g3 : m.mg "BadLadder" = some (.ref (cs 3)) := F.mg 3 (by decide)
  have k3 : PySem.W.kitOne m.K (.ref (cs i)) (.ref (cs 3)) = some (b i 3) := F.kit i 3 hi (by decide)
  have g4 : m.mg "BadMacros" = some (.ref (cs 4)) := F.mg 4 (by decide)
  have k4 : PySem.W.kitOne m.K (.ref (cs i)) (.ref (cs 4)) = some (b i 4) := F.kit i 4 hi (by decide)
  have g5 : m.mg "BadNumber" = some (.ref (cs 5)) := F.mg 5 (by decide)
  have k5 : PySem.W.kitOne m.K (.ref (cs i)) (.ref (cs 5)) = some (b i 5) := F.kit i 5 hi (by decide)
  have g6 : m.mg "BadOrders" = some (.ref (cs 6)) := F.mg 6 (by decide)
  have k6 : PySem.W.kitOne m.K (.ref (cs i)) (.ref (cs 6)) = some (b i 6) := F.kit i 6 hi (by decide)
  have g7 : m.mg "BadPaper" = some (.ref (cs 7)) := F.mg 7 (by decide)
  have k7 : PySem.W.kitOne m.K (.ref (cs i)) (.ref (cs 7)) = some (b i 7) := F.kit i 7 hi (by decide)
  have g8 : m.mg "BadPerm" = some (.ref (cs 8)) := F.mg 8 (by decide)
  have k8 : PySem.W.kitOne m.K (.ref (cs i)) (.ref (cs 8)) = some (b i 8) := F.kit i 8 hi (by decide)
  have g9 : m.mg "BadPieces" = some (.ref (cs 9)) := F.mg 9 (by decide)
  have k9 : PySem.W.kitOne m.K (.ref (cs i)) (.ref (cs 9)) = some (b i 9) := F.kit i 9 hi (by decide)
  have g10 : m.mg "BadPrices" = some (.ref (cs 10)) := F.mg 10 (by decide)
  have k10 : PySem.W.kitOne m.K (.ref (cs i)) (.ref (cs 10)) = some (b i 10) := F.kit i 10 hi (by decide)
  have g11 : m.mg "BadPuzzle" = some (.ref (cs 11)) := F.mg 11 (by decide)
  have k11 : PySem.W.kitOne m.K (.ref (cs i)) (.ref (cs 11)) = some (b i 11) := F.kit i 11 hi (by decide)
  have g12 : m.mg "BadRecipe" = some (.ref (cs 12)) := F.mg 12 (by decide)
  have k12 : PySem.W.kitOne m.K (.ref (cs i)) (.ref (cs 12)) = some (b i 12) := F.kit i 12 hi (by decide)
  have g13 : m.mg "BadReplay" = some (.ref (cs 13)) := F.mg 13 (by decide)
  have k13 : PySem.W.kitOne m.K (.ref (cs i)) (.ref (cs 13)) = some (b i 13) := F.kit i 13 hi (by decide)
  have g14 : m.mg "BadRow" = some (.ref (cs 14)) := F.mg 14 (by decide)
  have k14 : PySem.W.kitOne m.K (.ref (cs i)) (.ref (cs 14)) = some (b i 14) := F.kit i 14 hi (by decide)
  have g15 : m.mg "BadStages" = some (.ref (cs 15)) := F.mg 15 (by decide)
  have k15 : PySem.W.kitOne m.K (.ref (cs i)) (.ref (cs 15)) = some (b i 15) := F.kit i 15 hi (by decide)
  have g16 : m.mg "BadSystem" = some (.ref (cs 16)) := F.mg 16 (by decide)
  have k16 : PySem.W.kitOne m.K (.ref (cs i)) (.ref (cs 16)) = some (b i 16) := F.kit i 16 hi (by decide)
  have g17 : m.mg "BadTask" = some (.ref (cs 17)) := F.mg 17 (by decide)
  have k17 : PySem.W.kitOne m.K (.ref (cs i)) (.ref (cs 17)) = some (b i 17) := F.kit i 17 hi (by decide)
  have g18 : m.mg "BadText" = some (.ref (cs 18)) := F.mg 18 (by decide)
  have k18 : PySem.W.kitOne m.K (.ref (cs i)) (.ref (cs 18)) = some (b i 18) := F.kit i 18 hi (by decide)
  have g19 : m.mg "BadWeb" = some (.ref (cs 19)) := F.mg 19 (by decide)
  have k19 : PySem.W.kitOne m.K (.ref (cs i)) (.ref (cs 19)) = some (b i 19) := F.kit i 19 hi (by decide)
  have g20 : m.mg "BadWord" = some (.ref (cs 20)) := F.mg 20 (by decide)
  have k20 : PySem.W.kitOne m.K (.ref (cs i)) (.ref (cs 20)) = some (b i 20) := F.kit i 20 hi (by decide)
  have g21 : m.mg "NoSuch" = some (.ref (cs 21)) := F.mg 21 (by decide)
  have k21 : PySem.W.kitOne m.K (.ref (cs i)) (.ref (cs 21)) = some (b i 21) := F.kit i 21 hi (by decide)
  have g22 : m.mg "TooMany" = some (.ref (cs 22)) := F.mg 22 (by decide)
  have k22 : PySem.W.kitOne m.K (.ref (cs i)) (.ref (cs 22)) = some (b i 22) := F.kit i 22 hi (by decide)
  have g23 : m.mg "HomeError" = some (.ref (cs 23)) := F.mg 23 (by decide)
  have k23 : PySem.W.kitOne m.K (.ref (cs i)) (.ref (cs 23)) = some (b i 23) := F.kit i 23 hi (by decide)
  have k24 : PySem.W.kitOne m.K (.ref (cs i)) (.type "ValueError") = some (b i 24) := F.kit i 24 hi (by decide)
  have k25 : PySem.W.kitOne m.K (.ref (cs i)) (.type "LookupError") = some (b i 25) := F.kit i 25 hi (by decide)
  have k26 : PySem.W.kitOne m.K (.ref (cs i)) (.type "OverflowError") = some (b i 26) := F.kit i 26 hi (by decide)
  generalize b i = bb at *
  show BX _ _ _ (defBody s_kinds) _
  refine bx_cons ?_
  apply sx_set 1
  · refine ex_to (s := .p 2) (M2 := [.xd [(f, .d x)], .xo (cs i) msg (.p 0), .lst (sL2 bb)]) (ex_list (ea_cons (ex_to (s := .d (.tuple [.str "BadColours", .bool (bb 0)])) (ex_tup (ea_cons ex_str (ea_cons (ex_isx_own T G (ex_var 0) rfl rfl g0 k0 isi) ea_nil)) (Nat.le_of_ble_eq_true rfl)) rfl rfl) (ea_cons (ex_to (s := .d (.tuple [.str "BadDeed", .bool (bb 1)])) (ex_tup (ea_cons ex_str (ea_cons (ex_isx_own T G (ex_var 0) rfl rfl g1 k1 isi) ea_nil)) (Nat.le_of_ble_eq_true rfl)) rfl rfl) ea_nil)) (Nat.le_of_ble_eq_true rfl)) rfl rfl
  · refine bx_cons ?_
    apply sx_set 1
    · refine ex_bin (M2 := [.xd [(f, .d x)], .xo (cs i) msg (.p 0), .lst (sL2 bb), .lst (pL1 bb)]) (y := .p 3) (ex_var 1) (ex_to (ex_list (ea_cons (ex_to (s := .d (.tuple [.str "BadGlue", .bool (bb 2)])) (ex_tup (ea_cons ex_str (ea_cons (ex_isx_own T G (ex_var 0) rfl rfl g2 k2 isi) ea_nil)) (Nat.le_of_ble_eq_true rfl)) rfl rfl) (ea_cons (ex_to (s := .d (.tuple [.str "BadLadder", .bool (bb 3)])) (ex_tup (ea_cons ex_str (ea_cons (ex_isx_own T G (ex_var 0) rfl rfl g3 k3 isi) ea_nil)) (Nat.le_of_ble_eq_true rfl)) rfl rfl) ea_nil)) (Nat.le_of_ble_eq_true rfl)) rfl rfl) (OS.to (os_cat (xs := sL2 bb) (ys := pL1 bb) rfl rfl (Nat.le_of_ble_eq_true rfl)) (r' := .p 4) (M' := [.xd [(f, .d x)], .xo (cs i) msg (.p 0), .lst (sL2 bb), .lst (pL1 bb), .lst (sL4 bb)]) rfl rfl)
    · refine bx_cons ?_
      apply sx_set 1
      · refine ex_bin (M2 := [.xd [(f, .d x)], .xo (cs i) msg (.p 0), .lst (sL2 bb), .lst (pL1 bb), .lst (sL4 bb), .lst (pL2 bb)]) (y := .p 5) (ex_var 1) (ex_to (ex_list (ea_cons (ex_to (s := .d (.tuple [.str "BadMacros", .bool (bb 4)])) (ex_tup (ea_cons ex_str (ea_cons (ex_isx_own T G (ex_var 0) rfl rfl g4 k4 isi) ea_nil)) (Nat.le_of_ble_eq_true rfl)) rfl rfl) (ea_cons (ex_to (s := .d (.tuple [.str "BadNumber", .bool (bb 5)])) (ex_tup (ea_cons ex_str (ea_cons (ex_isx_own T G (ex_var 0) rfl rfl g5 k5 isi) ea_nil)) (Nat.le_of_ble_eq_true rfl)) rfl rfl) ea_nil)) (Nat.le_of_ble_eq_true rfl)) rfl rfl) (OS.to (os_cat (xs := sL4 bb) (ys := pL2 bb) rfl rfl (Nat.le_of_ble_eq_true rfl)) (r' := .p 6) (M' := [.xd [(f, .d x)], .xo (cs i) msg (.p 0), .lst (sL2 bb), .lst (pL1 bb), .lst (sL4 bb), .lst (pL2 bb), .lst (sL6 bb)]) rfl rfl)
      · refine bx_cons ?_
        apply sx_set 1
        · refine ex_bin (M2 := [.xd [(f, .d x)], .xo (cs i) msg (.p 0), .lst (sL2 bb), .lst (pL1 bb), .lst (sL4 bb), .lst (pL2 bb), .lst (sL6 bb), .lst (pL3 bb)]) (y := .p 7) (ex_var 1) (ex_to (ex_list (ea_cons (ex_to (s := .d (.tuple [.str "BadOrders", .bool (bb 6)])) (ex_tup (ea_cons ex_str (ea_cons (ex_isx_own T G (ex_var 0) rfl rfl g6 k6 isi) ea_nil)) (Nat.le_of_ble_eq_true rfl)) rfl rfl) (ea_cons (ex_to (s := .d (.tuple [.str "BadPaper", .bool (bb 7)])) (ex_tup (ea_cons ex_str (ea_cons (ex_isx_own T G (ex_var 0) rfl rfl g7 k7 isi) ea_nil)) (Nat.le_of_ble_eq_true rfl)) rfl rfl) ea_nil)) (Nat.le_of_ble_eq_true rfl)) rfl rfl) (OS.to (os_cat (xs := sL6 bb) (ys := pL3 bb) rfl rfl (Nat.le_of_ble_eq_true rfl)) (r' := .p 8) (M' := [.xd [(f, .d x)], .xo (cs i) msg (.p 0), .lst (sL2 bb), .lst (pL1 bb), .lst (sL4 bb), .lst (pL2 bb), .lst (sL6 bb), .lst (pL3 bb), .lst (sL8 bb)]) rfl rfl)
        · refine bx_cons ?_
          apply sx_set 1
          · refine ex_bin (M2 := [.xd [(f, .d x)], .xo (cs i) msg (.p 0), .lst (sL2 bb), .lst (pL1 bb), .lst (sL4 bb), .lst (pL2 bb), .lst (sL6 bb), .lst (pL3 bb), .lst (sL8 bb), .lst (pL4 bb)]) (y := .p 9) (ex_var 1) (ex_to (ex_list (ea_cons (ex_to (s := .d (.tuple [.str "BadPerm", .bool (bb 8)])) (ex_tup (ea_cons ex_str (ea_cons (ex_isx_own T G (ex_var 0) rfl rfl g8 k8 isi) ea_nil)) (Nat.le_of_ble_eq_true rfl)) rfl rfl) (ea_cons (ex_to (s := .d (.tuple [.str "BadPieces", .bool (bb 9)])) (ex_tup (ea_cons ex_str (ea_cons (ex_isx_own T G (ex_var 0) rfl rfl g9 k9 isi) ea_nil)) (Nat.le_of_ble_eq_true rfl)) rfl rfl) ea_nil)) (Nat.le_of_ble_eq_true rfl)) rfl rfl) (OS.to (os_cat (xs := sL8 bb) (ys := pL4 bb) rfl rfl (Nat.le_of_ble_eq_true rfl)) (r' := .p 10) (M' := [.xd [(f, .d x)], .xo (cs i) msg (.p 0), .lst (sL2 bb), .lst (pL1 bb), .lst (sL4 bb), .lst (pL2 bb), .lst (sL6 bb), .lst (pL3 bb), .lst (sL8 bb), .lst (pL4 bb), .lst (sL10 bb)]) rfl rfl)
          · refine bx_cons ?_
            apply sx_set 1
            · refine ex_bin (M2 := [.xd [(f, .d x)], .xo (cs i) msg (.p 0), .lst (sL2 bb), .lst (pL1 bb), .lst (sL4 bb), .lst (pL2 bb), .lst (sL6 bb), .lst (pL3 bb), .lst (sL8 bb), .lst (pL4 bb), .lst (sL10 bb), .lst (pL5 bb)]) (y := .p 11) (ex_var 1) (ex_to (ex_list (ea_cons (ex_to (s := .d (.tuple [.str "BadPrices", .bool (bb 10)])) (ex_tup (ea_cons ex_str (ea_cons (ex_isx_own T G (ex_var 0) rfl rfl g10 k10 isi) ea_nil)) (Nat.le_of_ble_eq_true rfl)) rfl rfl) (ea_cons (ex_to (s := .d (.tuple [.str "BadPuzzle", .bool (bb 11)])) (ex_tup (ea_cons ex_str (ea_cons (ex_isx_own T G (ex_var 0) rfl rfl g11 k11 isi) ea_nil)) (Nat.le_of_ble_eq_true rfl)) rfl rfl) ea_nil)) (Nat.le_of_ble_eq_true rfl)) rfl rfl) (OS.to (os_cat (xs := sL10 bb) (ys := pL5 bb) rfl rfl (Nat.le_of_ble_eq_true rfl)) (r' := .p 12) (M' := [.xd [(f, .d x)], .xo (cs i) msg (.p 0), .lst (sL2 bb), .lst (pL1 bb), .lst (sL4 bb), .lst (pL2 bb), .lst (sL6 bb), .lst (pL3 bb), .lst (sL8 bb), .lst (pL4 bb), .lst (sL10 bb), .lst (pL5 bb), .lst (sL12 bb)]) rfl rfl)
            · refine bx_cons ?_
              apply sx_set 1
              · refine ex_bin (M2 := [.xd [(f, .d x)], .xo (cs i) msg (.p 0), .lst (sL2 bb), .lst (pL1 bb), .lst (sL4 bb), .lst (pL2 bb), .lst (sL6 bb), .lst (pL3 bb), .lst (sL8 bb), .lst (pL4 bb), .lst (sL10 bb), .lst (pL5 bb), .lst (sL12 bb), .lst (pL6 bb)]) (y := .p 13) (ex_var 1) (ex_to (ex_list (ea_cons (ex_to (s := .d (.tuple [.str "BadRecipe", .bool (bb 12)])) (ex_tup (ea_cons ex_str (ea_cons (ex_isx_own T G (ex_var 0) rfl rfl g12 k12 isi) ea_nil)) (Nat.le_of_ble_eq_true rfl)) rfl rfl) (ea_cons (ex_to (s := .d (.tuple [.str "BadReplay", .bool (bb 13)])) (ex_tup (ea_cons ex_str (ea_cons (ex_isx_own T G (ex_var 0) rfl rfl g13 k13 isi) ea_nil)) (Nat.le_of_ble_eq_true rfl)) rfl rfl) ea_nil)) (Nat.le_of_ble_eq_true rfl)) rfl rfl) (OS.to (os_cat (xs := sL12 bb) (ys := pL6 bb) rfl rfl (Nat.le_of_ble_eq_true rfl)) (r' := .p 14) (M' := [.xd [(f, .d x)], .xo (cs i) msg (.p 0), .lst (sL2 bb), .lst (pL1 bb), .lst (sL4 bb), .lst (pL2 bb), .lst (sL6 bb), .lst (pL3 bb), .lst (sL8 bb), .lst (pL4 bb), .lst (sL10 bb), .lst (pL5 bb), .lst (sL12 bb), .lst (pL6 bb), .lst (sL14 bb)]) rfl rfl)
              · refine bx_cons ?_
                apply sx_set 1
                · refine ex_bin (M2 := [.xd [(f, .d x)], .xo (cs i) msg (.p 0), .lst (sL2 bb), .lst (pL1 bb), .lst (sL4 bb), .lst (pL2 bb), .lst (sL6 bb), .lst (pL3 bb), .lst (sL8 bb), .lst (pL4 bb), .lst (sL10 bb), .lst (pL5 bb), .lst (sL12 bb), .lst (pL6 bb), .lst (sL14 bb), .lst (pL7 bb)]) (y := .p 15) (ex_var 1) (ex_to (ex_list (ea_cons (ex_to (s := .d (.tuple [.str "BadRow", .bool (bb 14)])) (ex_tup (ea_cons ex_str (ea_cons (ex_isx_own T G (ex_var 0) rfl rfl g14 k14 isi) ea_nil)) (Nat.le_of_ble_eq_true rfl)) rfl rfl) (ea_cons (ex_to (s := .d (.tuple [.str "BadStages", .bool (bb 15)])) (ex_tup (ea_cons ex_str (ea_cons (ex_isx_own T G (ex_var 0) rfl rfl g15 k15 isi) ea_nil)) (Nat.le_of_ble_eq_true rfl)) rfl rfl) ea_nil)) (Nat.le_of_ble_eq_true rfl)) rfl rfl) (OS.to (os_cat (xs := sL14 bb) (ys := pL7 bb) rfl rfl (Nat.le_of_ble_eq_true rfl)) (r' := .p 16) (M' := [.xd [(f, .d x)], .xo (cs i) msg (.p 0), .lst (sL2 bb), .lst (pL1 bb), .lst (sL4 bb), .lst (pL2 bb), .lst (sL6 bb), .lst (pL3 bb), .lst (sL8 bb), .lst (pL4 bb), .lst (sL10 bb), .lst (pL5 bb), .lst (sL12 bb), .lst (pL6 bb), .lst (sL14 bb), .lst (pL7 bb), .lst (sL16 bb)]) rfl rfl)
                · refine bx_cons ?_
                  apply sx_set 1
                  · refine ex_bin (M2 := [.xd [(f, .d x)], .xo (cs i) msg (.p 0), .lst (sL2 bb), .lst (pL1 bb), .lst (sL4 bb), .lst (pL2 bb), .lst (sL6 bb), .lst (pL3 bb), .lst (sL8 bb), .lst (pL4 bb), .lst (sL10 bb), .lst (pL5 bb), .lst (sL12 bb), .lst (pL6 bb), .lst (sL14 bb), .lst (pL7 bb), .lst (sL16 bb), .lst (pL8 bb)]) (y := .p 17) (ex_var 1) (ex_to (ex_list (ea_cons (ex_to (s := .d (.tuple [.str "BadSystem", .bool (bb 16)])) (ex_tup (ea_cons ex_str (ea_cons (ex_isx_own T G (ex_var 0) rfl rfl g16 k16 isi) ea_nil)) (Nat.le_of_ble_eq_true rfl)) rfl rfl) (ea_cons (ex_to (s := .d (.tuple [.str "BadTask", .bool (bb 17)])) (ex_tup (ea_cons ex_str (ea_cons (ex_isx_own T G (ex_var 0) rfl rfl g17 k17 isi) ea_nil)) (Nat.le_of_ble_eq_true rfl)) rfl rfl) ea_nil)) (Nat.le_of_ble_eq_true rfl)) rfl rfl) (OS.to (os_cat (xs := sL16 bb) (ys := pL8 bb) rfl rfl (Nat.le_of_ble_eq_true rfl)) (r' := .p 18) (M' := [.xd [(f, .d x)], .xo (cs i) msg (.p 0), .lst (sL2 bb), .lst (pL1 bb), .lst (sL4 bb), .lst (pL2 bb), .lst (sL6 bb), .lst (pL3 bb), .lst (sL8 bb), .lst (pL4 bb), .lst (sL10 bb), .lst (pL5 bb), .lst (sL12 bb), .lst (pL6 bb), .lst (sL14 bb), .lst (pL7 bb), .lst (sL16 bb), .lst (pL8 bb), .lst (sL18 bb)]) rfl rfl)
                  · refine bx_cons ?_
                    apply sx_set 1
                    · refine ex_bin (M2 := [.xd [(f, .d x)], .xo (cs i) msg (.p 0), .lst (sL2 bb), .lst (pL1 bb), .lst (sL4 bb), .lst (pL2 bb), .lst (sL6 bb), .lst (pL3 bb), .lst (sL8 bb), .lst (pL4 bb), .lst (sL10 bb), .lst (pL5 bb), .lst (sL12 bb), .lst (pL6 bb), .lst (sL14 bb), .lst (pL7 bb), .lst (sL16 bb), .lst (pL8 bb), .lst (sL18 bb), .lst (pL9 bb)]) (y := .p 19) (ex_var 1) (ex_to (ex_list (ea_cons (ex_to (s := .d (.tuple [.str "BadText", .bool (bb 18)])) (ex_tup (ea_cons ex_str (ea_cons (ex_isx_own T G (ex_var 0) rfl rfl g18 k18 isi) ea_nil)) (Nat.le_of_ble_eq_true rfl)) rfl rfl) (ea_cons (ex_to (s := .d (.tuple [.str "BadWeb", .bool (bb 19)])) (ex_tup (ea_cons ex_str (ea_cons (ex_isx_own T G (ex_var 0) rfl rfl g19 k19 isi) ea_nil)) (Nat.le_of_ble_eq_true rfl)) rfl rfl) ea_nil)) (Nat.le_of_ble_eq_true rfl)) rfl rfl) (OS.to (os_cat (xs := sL18 bb) (ys := pL9 bb) rfl rfl (Nat.le_of_ble_eq_true rfl)) (r' := .p 20) (M' := [.xd [(f, .d x)], .xo (cs i) msg (.p 0), .lst (sL2 bb), .lst (pL1 bb), .lst (sL4 bb), .lst (pL2 bb), .lst (sL6 bb), .lst (pL3 bb), .lst (sL8 bb), .lst (pL4 bb), .lst (sL10 bb), .lst (pL5 bb), .lst (sL12 bb), .lst (pL6 bb), .lst (sL14 bb), .lst (pL7 bb), .lst (sL16 bb), .lst (pL8 bb), .lst (sL18 bb), .lst (pL9 bb), .lst (sL20 bb)]) rfl rfl)
                    · refine bx_cons ?_
                      apply sx_set 1
                      · refine ex_bin (M2 := [.xd [(f, .d x)], .xo (cs i) msg (.p 0), .lst (sL2 bb), .lst (pL1 bb), .lst (sL4 bb), .lst (pL2 bb), .lst (sL6 bb), .lst (pL3 bb), .lst (sL8 bb), .lst (pL4 bb), .lst (sL10 bb), .lst (pL5 bb), .lst (sL12 bb), .lst (pL6 bb), .lst (sL14 bb), .lst (pL7 bb), .lst (sL16 bb), .lst (pL8 bb), .lst (sL18 bb), .lst (pL9 bb), .lst (sL20 bb), .lst (pL10 bb)]) (y := .p 21) (ex_var 1) (ex_to (ex_list (ea_cons (ex_to (s := .d (.tuple [.str "BadWord", .bool (bb 20)])) (ex_tup (ea_cons ex_str (ea_cons (ex_isx_own T G (ex_var 0) rfl rfl g20 k20 isi) ea_nil)) (Nat.le_of_ble_eq_true rfl)) rfl rfl) (ea_cons (ex_to (s := .d (.tuple [.str "NoSuch", .bool (bb 21)])) (ex_tup (ea_cons ex_str (ea_cons (ex_isx_own T G (ex_var 0) rfl rfl g21 k21 isi) ea_nil)) (Nat.le_of_ble_eq_true rfl)) rfl rfl) ea_nil)) (Nat.le_of_ble_eq_true rfl)) rfl rfl) (OS.to (os_cat (xs := sL20 bb) (ys := pL10 bb) rfl rfl (Nat.le_of_ble_eq_true rfl)) (r' := .p 22) (M' := [.xd [(f, .d x)], .xo (cs i) msg (.p 0), .lst (sL2 bb), .lst (pL1 bb), .lst (sL4 bb), .lst (pL2 bb), .lst (sL6 bb), .lst (pL3 bb), .lst (sL8 bb), .lst (pL4 bb), .lst (sL10 bb), .lst (pL5 bb), .lst (sL12 bb), .lst (pL6 bb), .lst (sL14 bb), .lst (pL7 bb), .lst (sL16 bb), .lst (pL8 bb), .lst (sL18 bb), .lst (pL9 bb), .lst (sL20 bb), .lst (pL10 bb), .lst (sL22 bb)]) rfl rfl)
                      · refine bx_cons ?_
                        apply sx_set 1
                        · refine ex_bin (M2 := [.xd [(f, .d x)], .xo (cs i) msg (.p 0), .lst (sL2 bb), .lst (pL1 bb), .lst (sL4 bb), .lst (pL2 bb), .lst (sL6 bb), .lst (pL3 bb), .lst (sL8 bb), .lst (pL4 bb), .lst (sL10 bb), .lst (pL5 bb), .lst (sL12 bb), .lst (pL6 bb), .lst (sL14 bb), .lst (pL7 bb), .lst (sL16 bb), .lst (pL8 bb), .lst (sL18 bb), .lst (pL9 bb), .lst (sL20 bb), .lst (pL10 bb), .lst (sL22 bb), .lst (pL11 bb)]) (y := .p 23) (ex_var 1) (ex_to (ex_list (ea_cons (ex_to (s := .d (.tuple [.str "TooMany", .bool (bb 22)])) (ex_tup (ea_cons ex_str (ea_cons (ex_isx_own T G (ex_var 0) rfl rfl g22 k22 isi) ea_nil)) (Nat.le_of_ble_eq_true rfl)) rfl rfl) (ea_cons (ex_to (s := .d (.tuple [.str "home", .bool (bb 23)])) (ex_tup (ea_cons ex_str (ea_cons (ex_isx_own T G (ex_var 0) rfl rfl g23 k23 isi) ea_nil)) (Nat.le_of_ble_eq_true rfl)) rfl rfl) ea_nil)) (Nat.le_of_ble_eq_true rfl)) rfl rfl) (OS.to (os_cat (xs := sL22 bb) (ys := pL11 bb) rfl rfl (Nat.le_of_ble_eq_true rfl)) (r' := .p 24) (M' := [.xd [(f, .d x)], .xo (cs i) msg (.p 0), .lst (sL2 bb), .lst (pL1 bb), .lst (sL4 bb), .lst (pL2 bb), .lst (sL6 bb), .lst (pL3 bb), .lst (sL8 bb), .lst (pL4 bb), .lst (sL10 bb), .lst (pL5 bb), .lst (sL12 bb), .lst (pL6 bb), .lst (sL14 bb), .lst (pL7 bb), .lst (sL16 bb), .lst (pL8 bb), .lst (sL18 bb), .lst (pL9 bb), .lst (sL20 bb), .lst (pL10 bb), .lst (sL22 bb), .lst (pL11 bb), .lst (sL24 bb)]) rfl rfl)
                        · refine bx_cons ?_
                          apply sx_set 1
                          · refine ex_bin (M2 := [.xd [(f, .d x)], .xo (cs i) msg (.p 0), .lst (sL2 bb), .lst (pL1 bb), .lst (sL4 bb), .lst (pL2 bb), .lst (sL6 bb), .lst (pL3 bb), .lst (sL8 bb), .lst (pL4 bb), .lst (sL10 bb), .lst (pL5 bb), .lst (sL12 bb), .lst (pL6 bb), .lst (sL14 bb), .lst (pL7 bb), .lst (sL16 bb), .lst (pL8 bb), .lst (sL18 bb), .lst (pL9 bb), .lst (sL20 bb), .lst (pL10 bb), .lst (sL22 bb), .lst (pL11 bb), .lst (sL24 bb), .lst (pL12 bb)]) (y := .p 25) (ex_var 1) (ex_to (ex_list (ea_cons (ex_to (s := .d (.tuple [.str "value", .bool (bb 24)])) (ex_tup (ea_cons ex_str (ea_cons (ex_isx_ty T G (ex_var 0) rfl rfl F.vE rfl k24 isi) ea_nil)) (Nat.le_of_ble_eq_true rfl)) rfl rfl) (ea_cons (ex_to (s := .d (.tuple [.str "lookup", .bool (bb 25)])) (ex_tup (ea_cons ex_str (ea_cons (ex_isx_ty T G (ex_var 0) rfl rfl F.lE rfl k25 isi) ea_nil)) (Nat.le_of_ble_eq_true rfl)) rfl rfl) ea_nil)) (Nat.le_of_ble_eq_true rfl)) rfl rfl) (OS.to (os_cat (xs := sL24 bb) (ys := pL12 bb) rfl rfl (Nat.le_of_ble_eq_true rfl)) (r' := .p 26) (M' := [.xd [(f, .d x)], .xo (cs i) msg (.p 0), .lst (sL2 bb), .lst (pL1 bb), .lst (sL4 bb), .lst (pL2 bb), .lst (sL6 bb), .lst (pL3 bb), .lst (sL8 bb), .lst (pL4 bb), .lst (sL10 bb), .lst (pL5 bb), .lst (sL12 bb), .lst (pL6 bb), .lst (sL14 bb), .lst (pL7 bb), .lst (sL16 bb), .lst (pL8 bb), .lst (sL18 bb), .lst (pL9 bb), .lst (sL20 bb), .lst (pL10 bb), .lst (sL22 bb), .lst (pL11 bb), .lst (sL24 bb), .lst (pL12 bb), .lst (sL26 bb)]) rfl rfl)
                          · refine bx_cons ?_
                            apply sx_expr
                            · refine ex_to (s := .d .none) (M2 := [.xd [(f, .d x)], .xo (cs i) msg (.p 0), .lst (sL2 bb), .lst (pL1 bb), .lst (sL4 bb), .lst (pL2 bb), .lst (sL6 bb), .lst (pL3 bb), .lst (sL8 bb), .lst (pL4 bb), .lst (sL10 bb), .lst (pL5 bb), .lst (sL12 bb), .lst (pL6 bb), .lst (sL14 bb), .lst (pL7 bb), .lst (sL16 bb), .lst (pL8 bb), .lst (sL18 bb), .lst (pL9 bb), .lst (sL20 bb), .lst (pL10 bb), .lst (sL22 bb), .lst (pL11 bb), .lst (sL24 bb), .lst (pL12 bb), .lst (sL27 bb)]) (ex_append (ys := sL26 bb) (xs := sL26 bb) (ex_var 1) (ex_to (s := .d (.tuple [.str "overflow", .bool (bb 26)])) (ex_tup (ea_cons ex_str (ea_cons (ex_isx_ty T G (ex_var 0) rfl rfl F.oE rfl k26 isi) ea_nil)) (Nat.le_of_ble_eq_true rfl)) rfl rfl) rfl rfl (Nat.lt_of_le_of_lt (Nat.le_of_ble_eq_true rfl : _ ≤ 1000) (by decide))) rfl rfl
                            · refine bx_one ?_
                              apply sx_ret
                              · refine ex_lc [("word", 2), ("is_so", 3)] (M2 := [.xd [(f, .d x)], .xo (cs i) msg (.p 0), .lst (sL2 bb), .lst (pL1 bb), .lst (sL4 bb), .lst (pL2 bb), .lst (sL6 bb), .lst (pL3 bb), .lst (sL8 bb), .lst (pL4 bb), .lst (sL10 bb), .lst (pL5 bb), .lst (sL12 bb), .lst (pL6 bb), .lst (sL14 bb), .lst (pL7 bb), .lst (sL16 bb), .lst (pL8 bb), .lst (sL18 bb), .lst (pL9 bb), .lst (sL20 bb), .lst (pL10 bb), .lst (sL22 bb), .lst (pL11 bb), .lst (sL24 bb), .lst (pL12 bb), .lst (sL27 bb), .lst (kAcc bb 27)]) (ix_list' (m := .lst (sL27 bb)) (ss := sL27 bb) (ex_var 1) rfl rfl) (fun k M => M = [.xd [(f, .d x)], .xo (cs i) msg (.p 0), .lst (sL2 bb), .lst (pL1 bb), .lst (sL4 bb), .lst (pL2 bb), .lst (sL6 bb), .lst (pL3 bb), .lst (sL8 bb), .lst (pL4 bb), .lst (sL10 bb), .lst (pL5 bb), .lst (sL12 bb), .lst (pL6 bb), .lst (sL14 bb), .lst (pL7 bb), .lst (sL16 bb), .lst (pL8 bb), .lst (sL18 bb), .lst (pL9 bb), .lst (sL20 bb), .lst (pL10 bb), .lst (sL22 bb), .lst (pL11 bb), .lst (sL24 bb), .lst (pL12 bb), .lst (sL27 bb), .lst (kAcc bb k)]) rfl (fun k M _ e => by subst e; exact ⟨.lst (sL27 bb), rfl, rfl⟩) ?_ (fun M e => e) (ok := by kernel_rfl)
                                rintro k M hk rfl
                                have hk27 : k < 27 := hk
                                rw [it_kinds bb k hk27]
                                refine ⟨_, gw_tup (show Items (.d (.tuple [.str (wnm.getD k ""), .bool (bb k)])) _ from rfl) (gws_cons (gw_name 2) (gws_cons (gw_name 3) gws_nil)), bb k, _, ei_one (et_val (ex_var 3)), fun q => ⟨_, _, ex_var 2, kAcc bb k, rfl, kAcc_len bb k hk27, ?_⟩, fun q => ?_⟩
                                · refine nxtM_of (M' := [.xd [(f, .d x)], .xo (cs i) msg (.p 0), .lst (sL2 bb), .lst (pL1 bb), .lst (sL4 bb), .lst (pL2 bb), .lst (sL6 bb), .lst (pL3 bb), .lst (sL8 bb), .lst (pL4 bb), .lst (sL10 bb), .lst (pL5 bb), .lst (sL12 bb), .lst (pL6 bb), .lst (sL14 bb), .lst (pL7 bb), .lst (sL16 bb), .lst (pL8 bb), .lst (sL18 bb), .lst (pL9 bb), .lst (sL20 bb), .lst (pL10 bb), .lst (sL22 bb), .lst (pL11 bb), .lst (sL24 bb), .lst (pL12 bb), .lst (sL27 bb), .lst (kAcc bb (k + 1))]) (Nat.le_refl _) ?_ ?_ rfl
                                  · rw [kAcc_succ, q]
                                    rfl
                                  · exact ⟨⟨trivial, trivial⟩, Nat.succ_pos _, lo_data _ _, lo_data _ _, lo_data _ _, lo_data _ _, lo_data _ _, lo_data _ _, lo_data _ _, lo_data _ _, lo_data _ _, lo_data _ _, lo_data _ _, lo_data _ _, lo_data _ _, lo_data _ _, lo_data _ _, lo_data _ _, lo_data _ _, lo_data _ _, lo_data _ _, lo_data _ _, lo_data _ _, lo_data _ _, lo_data _ _, lo_data _ _, lo_data _ _, kAcc_lo _ _ _, trivial⟩
                                · refine nxtM_of (M' := [.xd [(f, .d x)], .xo (cs i) msg (.p 0), .lst (sL2 bb), .lst (pL1 bb), .lst (sL4 bb), .lst (pL2 bb), .lst (sL6 bb), .lst (pL3 bb), .lst (sL8 bb), .lst (pL4 bb), .lst (sL10 bb), .lst (pL5 bb), .lst (sL12 bb), .lst (pL6 bb), .lst (sL14 bb), .lst (pL7 bb), .lst (sL16 bb), .lst (pL8 bb), .lst (sL18 bb), .lst (pL9 bb), .lst (sL20 bb), .lst (pL10 bb), .lst (sL22 bb), .lst (pL11 bb), .lst (sL24 bb), .lst (pL12 bb), .lst (sL27 bb), .lst (kAcc bb (k + 1))]) (Nat.le_refl _) ?_ ?_ rfl
                                  · rw [kAcc_succ, q, if_neg Bool.false_ne_true]
                                    rfl
                                  · exact ⟨⟨trivial, trivial⟩, Nat.succ_pos _, lo_data _ _, lo_data _ _, lo_data _ _, lo_data _ _, lo_data _ _, lo_data _ _, lo_data _ _, lo_data _ _, lo_data _ _, lo_data _ _, lo_data _ _, lo_data _ _, lo_data _ _, lo_data _ _, lo_data _ _, lo_data _ _, lo_data _ _, lo_data _ _, lo_data _ _, lo_data _ _, lo_data _ _, lo_data _ _, lo_data _ _, lo_data _ _, lo_data _ _, kAcc_lo _ _ _, trivial⟩
                              · exact fin_lop (M0 := [.xd [(f, .d x)], .xo (cs i) msg (.p 0)]) (Nat.le_of_ble_eq_true rfl) rfl rfl ⟨⟨trivial, trivial⟩, Nat.succ_pos _, trivial⟩ (kAcc_lo _ _ _)
                            · intro _; rfl
end K

namespace K
open PySem PySem.Spec PyProof.Rows L2 DL DX
def fldn : List Str := ["value", "place", "place", "place", "place", "value", "place", "place", "value", "place", "place", "place", "place", "place", "place", "place", "place", "place", "place", "place", "place", "value", "most"]
def msgs : List Str := ["no such colours", "no such deed", "no such glue", "no such ladder", "no such macros", "no such number", "no such orders", "no such paper", "no such permutation", "no such pieces", "no such prices", "no such puzzle", "no such recipe", "no such replay", "no such row", "no such stages", "no such system", "no such task", "no such text", "no such web", "no such word", "nothing so called", "too many"]
/-- how the classes are made -/
def KM (m : Ms) (cs : Nat → Addr) : Prop := ∀ j, j < 23 → XM m (cnm.getD j "") (cs j) (fldn.getD j "") (msgs.getD j "") (fldn.getD j "") (decide (j < 22))
abbrev s_valued : Stmt := top 30
theorem sc_valued : FnScope ["thing", "found"] ["thing"] (defScope s_valued) := ⟨rfl, rfl, rfl, by decide +kernel, rfl, by decide +kernel, by decide +kernel⟩
def Mvalued (cs : Nat → Addr) (x : PyData) : Sto := [.xd [("value", .d x)], .xo (cs 8) "no such permutation" (.p 0), .xd [("value", .d x)], .xo (cs 8) "no such permutation" (.p 2), .xd [("value", .d x)], .xo (cs 5) "no such number" (.p 4), .xd [("value", .d x)], .xo (cs 5) "no such number" (.p 6), .lst [.t [.p 1, .p 3, .d (.str "BadPerm")], .t [.p 5, .p 7, .d (.str "BadNumber")]], .xd [("value", .d x)], .xo (cs 0) "no such colours" (.p 9), .xd [("value", .d x)], .xo (cs 0) "no such colours" (.p 11), .lst [.t [.p 10, .p 12, .d (.str "BadColours")]], .lst [.t [.p 1, .p 3, .d (.str "BadPerm")], .t [.p 5, .p 7, .d (.str "BadNumber")], .t [.p 10, .p 12, .d (.str "BadColours")]]]
def Rvalued (cs : Nat → Addr) : Rl := fun args M r M' => ∃ x : PyData, args = [.d x] ∧ M = [] ∧ r = .p 14 ∧ M' = Mvalued cs x
theorem lo_valued (cs : Nat → Addr) (x : PyData) : loMs 15 (Mvalued cs x) := by
  unfold Mvalued
  repeat' (first | exact trivial | exact Nat.le_of_ble_eq_true rfl | (refine ⟨?_, ?_⟩))
theorem ok_valued {m : Ms} {cs : Nat → Addr} (h : HasD m "_law_valued" s_valued ["thing"]) (F : KM m cs) : FnD m 3 "_law_valued" ["thing"] (Rvalued cs) := by
  refine fnD_of h sc_valued (by decide) ?_
  rintro args M r M' - ⟨x, rfl, rfl, rfl, rfl⟩
  have w8 : XM m "BadPerm" (cs 8) "value" "no such permutation" "value" true := F 8 (by decide)
  have w5 : XM m "BadNumber" (cs 5) "value" "no such number" "value" true := F 5 (by decide)
  have w0 : XM m "BadColours" (cs 0) "value" "no such colours" "value" true := F 0 (by decide)
  show BX _ _ _ (defBody s_valued) _
  refine bx_cons ?_
  apply sx_set 1
  · exact ex_to (s := .p 8) (M2 := [.xd [("value", .d x)], .xo (cs 8) "no such permutation" (.p 0), .xd [("value", .d x)], .xo (cs 8) "no such permutation" (.p 2), .xd [("value", .d x)], .xo (cs 5) "no such number" (.p 4), .xd [("value", .d x)], .xo (cs 5) "no such number" (.p 6), .lst [.t [.p 1, .p 3, .d (.str "BadPerm")], .t [.p 5, .p 7, .d (.str "BadNumber")]]]) (ex_list (ea_cons (ex_to (s := .t [.p 1, .p 3, .d (.str "BadPerm")]) (M2 := [.xd [("value", .d x)], .xo (cs 8) "no such permutation" (.p 0), .xd [("value", .d x)], .xo (cs 8) "no such permutation" (.p 2)]) (ex_tup (ea_cons (ex_to (s := .p 1) (M2 := [.xd [("value", .d x)], .xo (cs 8) "no such permutation" (.p 0)]) (ex_mkx w8 (ex_var 0)) rfl rfl) (ea_cons (ex_to (s := .p 3) (M2 := [.xd [("value", .d x)], .xo (cs 8) "no such permutation" (.p 0), .xd [("value", .d x)], .xo (cs 8) "no such permutation" (.p 2)]) (ex_mkxK w8 (ex_var 0)) rfl rfl) (ea_cons ex_str ea_nil))) (Nat.le_of_ble_eq_true rfl)) rfl rfl) (ea_cons (ex_to (s := .t [.p 5, .p 7, .d (.str "BadNumber")]) (M2 := [.xd [("value", .d x)], .xo (cs 8) "no such permutation" (.p 0), .xd [("value", .d x)], .xo (cs 8) "no such permutation" (.p 2), .xd [("value", .d x)], .xo (cs 5) "no such number" (.p 4), .xd [("value", .d x)], .xo (cs 5) "no such number" (.p 6)]) (ex_tup (ea_cons (ex_to (s := .p 5) (M2 := [.xd [("value", .d x)], .xo (cs 8) "no such permutation" (.p 0), .xd [("value", .d x)], .xo (cs 8) "no such permutation" (.p 2), .xd [("value", .d x)], .xo (cs 5) "no such number" (.p 4)]) (ex_mkx w5 (ex_var 0)) rfl rfl) (ea_cons (ex_to (s := .p 7) (M2 := [.xd [("value", .d x)], .xo (cs 8) "no such permutation" (.p 0), .xd [("value", .d x)], .xo (cs 8) "no such permutation" (.p 2), .xd [("value", .d x)], .xo (cs 5) "no such number" (.p 4), .xd [("value", .d x)], .xo (cs 5) "no such number" (.p 6)]) (ex_mkxK w5 (ex_var 0)) rfl rfl) (ea_cons ex_str ea_nil))) (Nat.le_of_ble_eq_true rfl)) rfl rfl) (ea_nil))) (Nat.le_of_ble_eq_true rfl)) rfl rfl
  · refine bx_one ?_
    apply sx_ret
    · exact ex_bin (ex_var 1) (ex_to (s := .p 13) (M2 := [.xd [("value", .d x)], .xo (cs 8) "no such permutation" (.p 0), .xd [("value", .d x)], .xo (cs 8) "no such permutation" (.p 2), .xd [("value", .d x)], .xo (cs 5) "no such number" (.p 4), .xd [("value", .d x)], .xo (cs 5) "no such number" (.p 6), .lst [.t [.p 1, .p 3, .d (.str "BadPerm")], .t [.p 5, .p 7, .d (.str "BadNumber")]], .xd [("value", .d x)], .xo (cs 0) "no such colours" (.p 9), .xd [("value", .d x)], .xo (cs 0) "no such colours" (.p 11), .lst [.t [.p 10, .p 12, .d (.str "BadColours")]]]) (ex_list (ea_cons (ex_to (s := .t [.p 10, .p 12, .d (.str "BadColours")]) (M2 := [.xd [("value", .d x)], .xo (cs 8) "no such permutation" (.p 0), .xd [("value", .d x)], .xo (cs 8) "no such permutation" (.p 2), .xd [("value", .d x)], .xo (cs 5) "no such number" (.p 4), .xd [("value", .d x)], .xo (cs 5) "no such number" (.p 6), .lst [.t [.p 1, .p 3, .d (.str "BadPerm")], .t [.p 5, .p 7, .d (.str "BadNumber")]], .xd [("value", .d x)], .xo (cs 0) "no such colours" (.p 9), .xd [("value", .d x)], .xo (cs 0) "no such colours" (.p 11)]) (ex_tup (ea_cons (ex_to (s := .p 10) (M2 := [.xd [("value", .d x)], .xo (cs 8) "no such permutation" (.p 0), .xd [("value", .d x)], .xo (cs 8) "no such permutation" (.p 2), .xd [("value", .d x)], .xo (cs 5) "no such number" (.p 4), .xd [("value", .d x)], .xo (cs 5) "no such number" (.p 6), .lst [.t [.p 1, .p 3, .d (.str "BadPerm")], .t [.p 5, .p 7, .d (.str "BadNumber")]], .xd [("value", .d x)], .xo (cs 0) "no such colours" (.p 9)]) (ex_mkx w0 (ex_var 0)) rfl rfl) (ea_cons (ex_to (s := .p 12) (M2 := [.xd [("value", .d x)], .xo (cs 8) "no such permutation" (.p 0), .xd [("value", .d x)], .xo (cs 8) "no such permutation" (.p 2), .xd [("value", .d x)], .xo (cs 5) "no such number" (.p 4), .xd [("value", .d x)], .xo (cs 5) "no such number" (.p 6), .lst [.t [.p 1, .p 3, .d (.str "BadPerm")], .t [.p 5, .p 7, .d (.str "BadNumber")]], .xd [("value", .d x)], .xo (cs 0) "no such colours" (.p 9), .xd [("value", .d x)], .xo (cs 0) "no such colours" (.p 11)]) (ex_mkxK w0 (ex_var 0)) rfl rfl) (ea_cons ex_str ea_nil))) (Nat.le_of_ble_eq_true rfl)) rfl rfl) (ea_nil)) (Nat.le_of_ble_eq_true rfl)) rfl rfl) (OS.to (os_cat (xs := [.t [.p 1, .p 3, .d (.str "BadPerm")], .t [.p 5, .p 7, .d (.str "BadNumber")]]) (ys := [.t [.p 10, .p 12, .d (.str "BadColours")]]) rfl rfl (Nat.le_of_ble_eq_true rfl)) (r' := .p 14) (M' := [.xd [("value", .d x)], .xo (cs 8) "no such permutation" (.p 0), .xd [("value", .d x)], .xo (cs 8) "no such permutation" (.p 2), .xd [("value", .d x)], .xo (cs 5) "no such number" (.p 4), .xd [("value", .d x)], .xo (cs 5) "no such number" (.p 6), .lst [.t [.p 1, .p 3, .d (.str "BadPerm")], .t [.p 5, .p 7, .d (.str "BadNumber")]], .xd [("value", .d x)], .xo (cs 0) "no such colours" (.p 9), .xd [("value", .d x)], .xo (cs 0) "no such colours" (.p 11), .lst [.t [.p 10, .p 12, .d (.str "BadColours")]], .lst [.t [.p 1, .p 3, .d (.str "BadPerm")], .t [.p 5, .p 7, .d (.str "BadNumber")], .t [.p 10, .p 12, .d (.str "BadColours")]]]) rfl rfl)
    · exact fin_all (Nat.zero_le _) (lo_valued cs x) (Nat.lt_of_lt_of_le (Nat.lt_succ_self _) (Nat.le_of_ble_eq_true rfl))
abbrev s_placed : Stmt := top 31
theorem sc_placed : FnScope ["thing", "found"] ["thing"] (defScope s_placed) := ⟨rfl, rfl, rfl, by decide +kernel, rfl, by decide +kernel, by decide +kernel⟩
def Mplaced (cs : Nat → Addr) (x : PyData) : Sto := [.xd [("place", .d x)], .xo (cs 11) "no such puzzle" (.p 0), .xd [("place", .d x)], .xo (cs 11) "no such puzzle" (.p 2), .xd [("place", .d x)], .xo (cs 20) "no such word" (.p 4), .xd [("place", .d x)], .xo (cs 20) "no such word" (.p 6), .lst [.t [.p 1, .p 3, .d (.str "BadPuzzle")], .t [.p 5, .p 7, .d (.str "BadWord")]], .xd [("place", .d x)], .xo (cs 12) "no such recipe" (.p 9), .xd [("place", .d x)], .xo (cs 12) "no such recipe" (.p 11), .lst [.t [.p 10, .p 12, .d (.str "BadRecipe")]], .lst [.t [.p 1, .p 3, .d (.str "BadPuzzle")], .t [.p 5, .p 7, .d (.str "BadWord")], .t [.p 10, .p 12, .d (.str "BadRecipe")]], .xd [("place", .d x)], .xo (cs 3) "no such ladder" (.p 15), .xd [("place", .d x)], .xo (cs 3) "no such ladder" (.p 17), .lst [.t [.p 16, .p 18, .d (.str "BadLadder")]], .lst [.t [.p 1, .p 3, .d (.str "BadPuzzle")], .t [.p 5, .p 7, .d (.str "BadWord")], .t [.p 10, .p 12, .d (.str "BadRecipe")], .t [.p 16, .p 18, .d (.str "BadLadder")]], .xd [("place", .d x)], .xo (cs 7) "no such paper" (.p 21), .xd [("place", .d x)], .xo (cs 7) "no such paper" (.p 23), .lst [.t [.p 22, .p 24, .d (.str "BadPaper")]], .lst [.t [.p 1, .p 3, .d (.str "BadPuzzle")], .t [.p 5, .p 7, .d (.str "BadWord")], .t [.p 10, .p 12, .d (.str "BadRecipe")], .t [.p 16, .p 18, .d (.str "BadLadder")], .t [.p 22, .p 24, .d (.str "BadPaper")]], .xd [("place", .d x)], .xo (cs 9) "no such pieces" (.p 27), .xd [("place", .d x)], .xo (cs 9) "no such pieces" (.p 29), .lst [.t [.p 28, .p 30, .d (.str "BadPieces")]], .lst [.t [.p 1, .p 3, .d (.str "BadPuzzle")], .t [.p 5, .p 7, .d (.str "BadWord")], .t [.p 10, .p 12, .d (.str "BadRecipe")], .t [.p 16, .p 18, .d (.str "BadLadder")], .t [.p 22, .p 24, .d (.str "BadPaper")], .t [.p 28, .p 30, .d (.str "BadPieces")]], .xd [("place", .d x)], .xo (cs 2) "no such glue" (.p 33), .xd [("place", .d x)], .xo (cs 2) "no such glue" (.p 35), .xd [("place", .d x)], .xo (cs 19) "no such web" (.p 37), .xd [("place", .d x)], .xo (cs 19) "no such web" (.p 39), .lst [.t [.p 34, .p 36, .d (.str "BadGlue")], .t [.p 38, .p 40, .d (.str "BadWeb")]], .lst [.t [.p 1, .p 3, .d (.str "BadPuzzle")], .t [.p 5, .p 7, .d (.str "BadWord")], .t [.p 10, .p 12, .d (.str "BadRecipe")], .t [.p 16, .p 18, .d (.str "BadLadder")], .t [.p 22, .p 24, .d (.str "BadPaper")], .t [.p 28, .p 30, .d (.str "BadPieces")], .t [.p 34, .p 36, .d (.str "BadGlue")], .t [.p 38, .p 40, .d (.str "BadWeb")]], .xd [("place", .d x)], .xo (cs 18) "no such text" (.p 43), .xd [("place", .d x)], .xo (cs 18) "no such text" (.p 45), .xd [("place", .d x)], .xo (cs 1) "no such deed" (.p 47), .xd [("place", .d x)], .xo (cs 1) "no such deed" (.p 49), .lst [.t [.p 44, .p 46, .d (.str "BadText")], .t [.p 48, .p 50, .d (.str "BadDeed")]], .lst [.t [.p 1, .p 3, .d (.str "BadPuzzle")], .t [.p 5, .p 7, .d (.str "BadWord")], .t [.p 10, .p 12, .d (.str "BadRecipe")], .t [.p 16, .p 18, .d (.str "BadLadder")], .t [.p 22, .p 24, .d (.str "BadPaper")], .t [.p 28, .p 30, .d (.str "BadPieces")], .t [.p 34, .p 36, .d (.str "BadGlue")], .t [.p 38, .p 40, .d (.str "BadWeb")], .t [.p 44, .p 46, .d (.str "BadText")], .t [.p 48, .p 50, .d (.str "BadDeed")]], .xd [("place", .d x)], .xo (cs 15) "no such stages" (.p 53), .xd [("place", .d x)], .xo (cs 15) "no such stages" (.p 55), .lst [.t [.p 54, .p 56, .d (.str "BadStages")]], .lst [.t [.p 1, .p 3, .d (.str "BadPuzzle")], .t [.p 5, .p 7, .d (.str "BadWord")], .t [.p 10, .p 12, .d (.str "BadRecipe")], .t [.p 16, .p 18, .d (.str "BadLadder")], .t [.p 22, .p 24, .d (.str "BadPaper")], .t [.p 28, .p 30, .d (.str "BadPieces")], .t [.p 34, .p 36, .d (.str "BadGlue")], .t [.p 38, .p 40, .d (.str "BadWeb")], .t [.p 44, .p 46, .d (.str "BadText")], .t [.p 48, .p 50, .d (.str "BadDeed")], .t [.p 54, .p 56, .d (.str "BadStages")]], .xd [("place", .d x)], .xo (cs 4) "no such macros" (.p 59), .xd [("place", .d x)], .xo (cs 4) "no such macros" (.p 61), .lst [.t [.p 60, .p 62, .d (.str "BadMacros")]], .lst [.t [.p 1, .p 3, .d (.str "BadPuzzle")], .t [.p 5, .p 7, .d (.str "BadWord")], .t [.p 10, .p 12, .d (.str "BadRecipe")], .t [.p 16, .p 18, .d (.str "BadLadder")], .t [.p 22, .p 24, .d (.str "BadPaper")], .t [.p 28, .p 30, .d (.str "BadPieces")], .t [.p 34, .p 36, .d (.str "BadGlue")], .t [.p 38, .p 40, .d (.str "BadWeb")], .t [.p 44, .p 46, .d (.str "BadText")], .t [.p 48, .p 50, .d (.str "BadDeed")], .t [.p 54, .p 56, .d (.str "BadStages")], .t [.p 60, .p 62, .d (.str "BadMacros")]], .xd [("place", .d x)], .xo (cs 6) "no such orders" (.p 65), .xd [("place", .d x)], .xo (cs 6) "no such orders" (.p 67), .lst [.t [.p 66, .p 68, .d (.str "BadOrders")]], .lst [.t [.p 1, .p 3, .d (.str "BadPuzzle")], .t [.p 5, .p 7, .d (.str "BadWord")], .t [.p 10, .p 12, .d (.str "BadRecipe")], .t [.p 16, .p 18, .d (.str "BadLadder")], .t [.p 22, .p 24, .d (.str "BadPaper")], .t [.p 28, .p 30, .d (.str "BadPieces")], .t [.p 34, .p 36, .d (.str "BadGlue")], .t [.p 38, .p 40, .d (.str "BadWeb")], .t [.p 44, .p 46, .d (.str "BadText")], .t [.p 48, .p 50, .d (.str "BadDeed")], .t [.p 54, .p 56, .d (.str "BadStages")], .t [.p 60, .p 62, .d (.str "BadMacros")], .t [.p 66, .p 68, .d (.str "BadOrders")]], .xd [("place", .d x)], .xo (cs 14) "no such row" (.p 71), .xd [("place", .d x)], .xo (cs 14) "no such row" (.p 73), .xd [("place", .d x)], .xo (cs 17) "no such task" (.p 75), .xd [("place", .d x)], .xo (cs 17) "no such task" (.p 77), .lst [.t [.p 72, .p 74, .d (.str "BadRow")], .t [.p 76, .p 78, .d (.str "BadTask")]], .lst [.t [.p 1, .p 3, .d (.str "BadPuzzle")], .t [.p 5, .p 7, .d (.str "BadWord")], .t [.p 10, .p 12, .d (.str "BadRecipe")], .t [.p 16, .p 18, .d (.str "BadLadder")], .t [.p 22, .p 24, .d (.str "BadPaper")], .t [.p 28, .p 30, .d (.str "BadPieces")], .t [.p 34, .p 36, .d (.str "BadGlue")], .t [.p 38, .p 40, .d (.str "BadWeb")], .t [.p 44, .p 46, .d (.str "BadText")], .t [.p 48, .p 50, .d (.str "BadDeed")], .t [.p 54, .p 56, .d (.str "BadStages")], .t [.p 60, .p 62, .d (.str "BadMacros")], .t [.p 66, .p 68, .d (.str "BadOrders")], .t [.p 72, .p 74, .d (.str "BadRow")], .t [.p 76, .p 78, .d (.str "BadTask")]], .xd [("place", .d x)], .xo (cs 13) "no such replay" (.p 81), .xd [("place", .d x)], .xo (cs 13) "no such replay" (.p 83), .lst [.t [.p 82, .p 84, .d (.str "BadReplay")]], .lst [.t [.p 1, .p 3, .d (.str "BadPuzzle")], .t [.p 5, .p 7, .d (.str "BadWord")], .t [.p 10, .p 12, .d (.str "BadRecipe")], .t [.p 16, .p 18, .d (.str "BadLadder")], .t [.p 22, .p 24, .d (.str "BadPaper")], .t [.p 28, .p 30, .d (.str "BadPieces")], .t [.p 34, .p 36, .d (.str "BadGlue")], .t [.p 38, .p 40, .d (.str "BadWeb")], .t [.p 44, .p 46, .d (.str "BadText")], .t [.p 48, .p 50, .d (.str "BadDeed")], .t [.p 54, .p 56, .d (.str "BadStages")], .t [.p 60, .p 62, .d (.str "BadMacros")], .t [.p 66, .p 68, .d (.str "BadOrders")], .t [.p 72, .p 74, .d (.str "BadRow")], .t [.p 76, .p 78, .d (.str "BadTask")], .t [.p 82, .p 84, .d (.str "BadReplay")]], .xd [("place", .d x)], .xo (cs 10) "no such prices" (.p 87), .xd [("place", .d x)], .xo (cs 10) "no such prices" (.p 89), .lst [.t [.p 88, .p 90, .d (.str "BadPrices")]], .lst [.t [.p 1, .p 3, .d (.str "BadPuzzle")], .t [.p 5, .p 7, .d (.str "BadWord")], .t [.p 10, .p 12, .d (.str "BadRecipe")], .t [.p 16, .p 18, .d (.str "BadLadder")], .t [.p 22, .p 24, .d (.str "BadPaper")], .t [.p 28, .p 30, .d (.str "BadPieces")], .t [.p 34, .p 36, .d (.str "BadGlue")], .t [.p 38, .p 40, .d (.str "BadWeb")], .t [.p 44, .p 46, .d (.str "BadText")], .t [.p 48, .p 50, .d (.str "BadDeed")], .t [.p 54, .p 56, .d (.str "BadStages")], .t [.p 60, .p 62, .d (.str "BadMacros")], .t [.p 66, .p 68, .d (.str "BadOrders")], .t [.p 72, .p 74, .d (.str "BadRow")], .t [.p 76, .p 78, .d (.str "BadTask")], .t [.p 82, .p 84, .d (.str "BadReplay")], .t [.p 88, .p 90, .d (.str "BadPrices")]], .xd [("place", .d x)], .xo (cs 16) "no such system" (.p 93), .xd [("place", .d x)], .xo (cs 16) "no such system" (.p 95), .lst [.t [.p 94, .p 96, .d (.str "BadSystem")]], .lst [.t [.p 1, .p 3, .d (.str "BadPuzzle")], .t [.p 5, .p 7, .d (.str "BadWord")], .t [.p 10, .p 12, .d (.str "BadRecipe")], .t [.p 16, .p 18, .d (.str "BadLadder")], .t [.p 22, .p 24, .d (.str "BadPaper")], .t [.p 28, .p 30, .d (.str "BadPieces")], .t [.p 34, .p 36, .d (.str "BadGlue")], .t [.p 38, .p 40, .d (.str "BadWeb")], .t [.p 44, .p 46, .d (.str "BadText")], .t [.p 48, .p 50, .d (.str "BadDeed")], .t [.p 54, .p 56, .d (.str "BadStages")], .t [.p 60, .p 62, .d (.str "BadMacros")], .t [.p 66, .p 68, .d (.str "BadOrders")], .t [.p 72, .p 74, .d (.str "BadRow")], .t [.p 76, .p 78, .d (.str "BadTask")], .t [.p 82, .p 84, .d (.str "BadReplay")], .t [.p 88, .p 90, .d (.str "BadPrices")], .t [.p 94, .p 96, .d (.str "BadSystem")]]]
def Rplaced (cs : Nat → Addr) : Rl := fun args M r M' => ∃ x : PyData, args = [.d x] ∧ M = [] ∧ r = .p 98 ∧ M' = Mplaced cs x
theorem lo_placed (cs : Nat → Addr) (x : PyData) : loMs 99 (Mplaced cs x) := by
  unfold Mplaced
  repeat' (first | exact trivial | exact Nat.le_of_ble_eq_true rfl | (refine ⟨?_, ?_⟩))
theorem ok_placed {m : Ms} {cs : Nat → Addr} (h : HasD m "_law_placed" s_placed ["thing"]) (F : KM m cs) : FnD m 3 "_law_placed" ["thing"] (Rplaced cs) := by
  refine fnD_of h sc_placed (by decide) ?_
  rintro args M r M' - ⟨x, rfl, rfl, rfl, rfl⟩
  have w11 : XM m "BadPuzzle" (cs 11) "place" "no such puzzle" "place" true := F 11 (by decide)
  have w20 : XM m "BadWord" (cs 20) "place" "no such word" "place" true := F 20 (by decide)
  have w12 : XM m "BadRecipe" (cs 12) "place" "no such recipe" "place" true := F 12 (by decide)
  have w3 : XM m "BadLadder" (cs 3) "place" "no such ladder" "place" true := F 3 (by decide)
  have w7 : XM m "BadPaper" (cs 7) "place" "no such paper" "place" true := F 7 (by decide)
  have w9 : XM m "BadPieces" (cs 9) "place" "no such pieces" "place" true := F 9 (by decide)
  have w2 : XM m "BadGlue" (cs 2) "place" "no such glue" "place" true := F 2 (by decide)
  have w19 : XM m "BadWeb" (cs 19) "place" "no such web" "place" true := F 19 (by decide)
  have w18 : XM m "BadText" (cs 18) "place" "no such text" "place" true := F 18 (by decide)
  have w1 : XM m "BadDeed" (cs 1) "place" "no such deed" "place" true := F 1 (by decide)
  have w15 : XM m "BadStages" (cs 15) "place" "no such stages" "place" true := F 15 (by decide)
  have w4 : XM m "BadMacros" (cs 4) "place" "no such macros" "place" true := F 4 (by decide)
  have w6 : XM m "BadOrders" (cs 6) "place" "no such orders" "place" true := F 6 (by decide)
  have w14 : XM m "BadRow" (cs 14) "place" "no such row" "place" true := F 14 (by decide)
  have w17 : XM m "BadTask" (cs 17) "place" "no such task" "place" true := F 17 (by decide)
  have w13 : XM m "BadReplay" (cs 13) "place" "no such replay" "place" true := F 13 (by decide)
  have w10 : XM m "BadPrices" (cs 10) "place" "no such prices" "place" true := F 10 (by decide)
  have w16 : XM m "BadSystem" (cs 16) "place" "no such system" "place" true := F 16 (by decide)
  show BX _ _ _ (defBody s_placed) _
  refine bx_cons ?_
  apply sx_set 1
  · exact ex_to (s := .p 8) (M2 := [.xd [("place", .d x)], .xo (cs 11) "no such puzzle" (.p 0), .xd [("place", .d x)], .xo (cs 11) "no such puzzle" (.p 2), .xd [("place", .d x)], .xo (cs 20) "no such word" (.p 4), .xd [("place", .d x)], .xo (cs 20) "no such word" (.p 6), .lst [.t [.p 1, .p 3, .d (.str "BadPuzzle")], .t [.p 5, .p 7, .d (.str "BadWord")]]]) (ex_list (ea_cons (ex_to (s := .t [.p 1, .p 3, .d (.str "BadPuzzle")]) (M2 := [.xd [("place", .d x)], .xo (cs 11) "no such puzzle" (.p 0), .xd [("place", .d x)], .xo (cs 11) "no such puzzle" (.p 2)]) (ex_tup (ea_cons (ex_to (s := .p 1) (M2 := [.xd [("place", .d x)], .xo (cs 11) "no such puzzle" (.p 0)]) (ex_mkx w11 (ex_var 0)) rfl rfl) (ea_cons (ex_to (s := .p 3) (M2 := [.xd [("place", .d x)], .xo (cs 11) "no such puzzle" (.p 0), .xd [("place", .d x)], .xo (cs 11) "no such puzzle" (.p 2)]) (ex_mkxK w11 (ex_var 0)) rfl rfl) (ea_cons ex_str ea_nil))) (Nat.le_of_ble_eq_true rfl)) rfl rfl) (ea_cons (ex_to (s := .t [.p 5, .p 7, .d (.str "BadWord")]) (M2 := [.xd [("place", .d x)], .xo (cs 11) "no such puzzle" (.p 0), .xd [("place", .d x)], .xo (cs 11) "no such puzzle" (.p 2), .xd [("place", .d x)], .xo (cs 20) "no such word" (.p 4), .xd [("place", .d x)], .xo (cs 20) "no such word" (.p 6)]) (ex_tup (ea_cons (ex_to (s := .p 5) (M2 := [.xd [("place", .d x)], .xo (cs 11) "no such puzzle" (.p 0), .xd [("place", .d x)], .xo (cs 11) "no such puzzle" (.p 2), .xd [("place", .d x)], .xo (cs 20) "no such word" (.p 4)]) (ex_mkx w20 (ex_var 0)) rfl rfl) (ea_cons (ex_to (s := .p 7) (M2 := [.xd [("place", .d x)], .xo (cs 11) "no such puzzle" (.p 0), .xd [("place", .d x)], .xo (cs 11) "no such puzzle" (.p 2), .xd [("place", .d x)], .xo (cs 20) "no such word" (.p 4), .xd [("place", .d x)], .xo (cs 20) "no such word" (.p 6)]) (ex_mkxK w20 (ex_var 0)) rfl rfl) (ea_cons ex_str ea_nil))) (Nat.le_of_ble_eq_true rfl)) rfl rfl) (ea_nil))) (Nat.le_of_ble_eq_true rfl)) rfl rfl
  · refine bx_cons ?_
    apply sx_set 1
    · exact ex_bin (ex_var 1) (ex_to (s := .p 13) (M2 := [.xd [("place", .d x)], .xo (cs 11) "no such puzzle" (.p 0), .xd [("place", .d x)], .xo (cs 11) "no such puzzle" (.p 2), .xd [("place", .d x)], .xo (cs 20) "no such word" (.p 4), .xd [("place", .d x)], .xo (cs 20) "no such word" (.p 6), .lst [.t [.p 1, .p 3, .d (.str "BadPuzzle")], .t [.p 5, .p 7, .d (.str "BadWord")]], .xd [("place", .d x)], .xo (cs 12) "no such recipe" (.p 9), .xd [("place", .d x)], .xo (cs 12) "no such recipe" (.p 11), .lst [.t [.p 10, .p 12, .d (.str "BadRecipe")]]]) (ex_list (ea_cons (ex_to (s := .t [.p 10, .p 12, .d (.str "BadRecipe")]) (M2 := [.xd [("place", .d x)], .xo (cs 11) "no such puzzle" (.p 0), .xd [("place", .d x)], .xo (cs 11) "no such puzzle" (.p 2), .xd [("place", .d x)], .xo (cs 20) "no such word" (.p 4), .xd [("place", .d x)], .xo (cs 20) "no such word" (.p 6), .lst [.t [.p 1, .p 3, .d (.str "BadPuzzle")], .t [.p 5, .p 7, .d (.str "BadWord")]], .xd [("place", .d x)], .xo (cs 12) "no such recipe" (.p 9), .xd [("place", .d x)], .xo (cs 12) "no such recipe" (.p 11)]) (ex_tup (ea_cons (ex_to (s := .p 10) (M2 := [.xd [("place", .d x)], .xo (cs 11) "no such puzzle" (.p 0), .xd [("place", .d x)], .xo (cs 11) "no such puzzle" (.p 2), .xd [("place", .d x)], .xo (cs 20) "no such word" (.p 4), .xd [("place", .d x)], .xo (cs 20) "no such word" (.p 6), .lst [.t [.p 1, .p 3, .d (.str "BadPuzzle")], .t [.p 5, .p 7, .d (.str "BadWord")]], .xd [("place", .d x)], .xo (cs 12) "no such recipe" (.p 9)]) (ex_mkx w12 (ex_var 0)) rfl rfl) (ea_cons (ex_to (s := .p 12) (M2 := [.xd [("place", .d x)], .xo (cs 11) "no such puzzle" (.p 0), .xd [("place", .d x)], .xo (cs 11) "no such puzzle" (.p 2), .xd [("place", .d x)], .xo (cs 20) "no such word" (.p 4), .xd [("place", .d x)], .xo (cs 20) "no such word" (.p 6), .lst [.t [.p 1, .p 3, .d (.str "BadPuzzle")], .t [.p 5, .p 7, .d (.str "BadWord")]], .xd [("place", .d x)], .xo (cs 12) "no such recipe" (.p 9), .xd [("place", .d x)], .xo (cs 12) "no such recipe" (.p 11)]) (ex_mkxK w12 (ex_var 0)) rfl rfl) (ea_cons ex_str ea_nil))) (Nat.le_of_ble_eq_true rfl)) rfl rfl) (ea_nil)) (Nat.le_of_ble_eq_true rfl)) rfl rfl) (OS.to (os_cat (xs := [.t [.p 1, .p 3, .d (.str "BadPuzzle")], .t [.p 5, .p 7, .d (.str "BadWord")]]) (ys := [.t [.p 10, .p 12, .d (.str "BadRecipe")]]) rfl rfl (Nat.le_of_ble_eq_true rfl)) (r' := .p 14) (M' := [.xd [("place", .d x)], .xo (cs 11) "no such puzzle" (.p 0), .xd [("place", .d x)], .xo (cs 11) "no such puzzle" (.p 2), .xd [("place", .d x)], .xo (cs 20) "no such word" (.p 4), .xd [("place", .d x)], .xo (cs 20) "no such word" (.p 6), .lst [.t [.p 1, .p 3, .d (.str "BadPuzzle")], .t [.p 5, .p 7, .d (.str "BadWord")]], .xd [("place", .d x)], .xo (cs 12) "no such recipe" (.p 9), .xd [("place", .d x)], .xo (cs 12) "no such recipe" (.p 11), .lst [.t [.p 10, .p 12, .d (.str "BadRecipe")]], .lst [.t [.p 1, .p 3, .d (.str "BadPuzzle")], .t [.p 5, .p 7, .d (.str "BadWord")], .t [.p 10, .p 12, .d (.str "BadRecipe")]]]) rfl rfl)
    · refine bx_cons ?_
      apply sx_set 1
      · exact ex_bin (ex_var 1) (ex_to (s := .p 19) (M2 := [.xd [("place", .d x)], .xo (cs 11) "no such puzzle" (.p 0), .xd [("place", .d x)], .xo (cs 11) "no such puzzle" (.p 2), .xd [("place", .d x)], .xo (cs 20) "no such word" (.p 4), .xd [("place", .d x)], .xo (cs 20) "no such word" (.p 6), .lst [.t [.p 1, .p 3, .d (.str "BadPuzzle")], .t [.p 5, .p 7, .d (.str "BadWord")]], .xd [("place", .d x)], .xo (cs 12) "no such recipe" (.p 9), .xd [("place", .d x)], .xo (cs 12) "no such recipe" (.p 11), .lst [.t [.p 10, .p 12, .d (.str "BadRecipe")]], .lst [.t [.p 1, .p 3, .d (.str "BadPuzzle")], .t [.p 5, .p 7, .d (.str "BadWord")], .t [.p 10, .p 12, .d (.str "BadRecipe")]], .xd [("place", .d x)], .xo (cs 3) "no such ladder" (.p 15), .xd [("place", .d x)], .xo (cs 3) "no such ladder" (.p 17), .lst [.t [.p 16, .p 18, .d (.str "BadLadder")]]]) (ex_list (ea_cons (ex_to (s := .t [.p 16, .p 18, .d (.str "BadLadder")]) (M2 := [.xd [("place", .d x)], .xo (cs 11) "no such puzzle" (.p 0), .xd [("place", .d x)], .xo (cs 11) "no such puzzle" (.p 2), .xd [("place", .d x)], .xo (cs 20) "no such word" (.p 4), .xd [("place", .d x)], .xo (cs 20) "no such word" (.p 6), .lst [.t [.p 1, .p 3, .d (.str "BadPuzzle")], .t [.p 5, .p 7, .d (.str "BadWord")]], .xd [("place", .d x)], .xo (cs 12) "no such recipe" (.p 9), .xd [("place", .d x)], .xo (cs 12) "no such recipe" (.p 11), .lst [.t [.p 10, .p 12, .d (.str "BadRecipe")]], .lst [.t [.p 1, .p 3, .d (.str "BadPuzzle")], .t [.p 5, .p 7, .d (.str "BadWord")], .t [.p 10, .p 12, .d (.str "BadRecipe")]], .xd [("place", .d x)], .xo (cs 3) "no such ladder" (.p 15), .xd [("place", .d x)], .xo (cs 3) "no such ladder" (.p 17)]) (ex_tup (ea_cons (ex_to (s := .p 16) (M2 := [.xd [("place", .d x)], .xo (cs 11) "no such puzzle" (.p 0), .xd [("place", .d x)], .xo (cs 11) "no such puzzle" (.p 2), .xd [("place", .d x)], .xo (cs 20) "no such word" (.p 4), .xd [("place", .d x)], .xo (cs 20) "no such word" (.p 6), .lst [.t [.p 1, .p 3, .d (.str "BadPuzzle")], .t [.p 5, .p 7, .d (.str "BadWord")]], .xd [("place", .d x)], .xo (cs 12) "no such recipe" (.p 9), .xd [("place", .d x)], .xo (cs 12) "no such recipe" (.p 11), .lst [.t [.p 10, .p 12, .d (.str "BadRecipe")]], .lst [.t [.p 1, .p 3, .d (.str "BadPuzzle")], .t [.p 5, .p 7, .d (.str "BadWord")], .t [.p 10, .p 12, .d (.str "BadRecipe")]], .xd [("place", .d x)], .xo (cs 3) "no such ladder" (.p 15)]) (ex_mkx w3 (ex_var 0)) rfl rfl) (ea_cons (ex_to (s := .p 18) (M2 := [.xd [("place", .d x)], .xo (cs 11) "no such puzzle" (.p 0), .xd [("place", .d x)], .xo (cs 11) "no such puzzle" (.p 2), .xd [("place", .d x)], .xo (cs 20) "no such word" (.p 4), .xd [("place", .d x)], .xo (cs 20) "no such word" (.p 6), .lst [.t [.p 1, .p 3, .d (.str "BadPuzzle")], .t [.p 5, .p 7, .d (.str "BadWord")]], .xd [("place", .d x)], .xo (cs 12) "no such recipe" (.p 9), .xd [("place", .d x)], .xo (cs 12) "no such recipe" (.p 11), .lst [.t [.p 10, .p 12, .d (.str "BadRecipe")]], .lst [.t [.p 1, .p 3, .d (.str "BadPuzzle")], .t [.p 5, .p 7, .d (.str "BadWord")], .t [.p 10, .p 12, .d (.str "BadRecipe")]], .xd [("place", .d x)], .xo (cs 3) "no such ladder" (.p 15), .xd [("place", .d x)], .xo (cs 3) "no such ladder" (.p 17)]) (ex_mkxK w3 (ex_var 0)) rfl rfl) (ea_cons ex_str ea_nil))) (Nat.le_of_ble_eq_true rfl)) rfl rfl) (ea_nil)) (Nat.le_of_ble_eq_true rfl)) rfl rfl) (OS.to (os_cat (xs := [.t [.p 1, .p 3, .d (.str "BadPuzzle")], .t [.p 5, .p 7, .d (.str "BadWord")], .t [.p 10, .p 12, .d (.str "BadRecipe")]]) (ys := [.t [.p 16, .p 18, .d (.str "BadLadder")]]) rfl rfl (Nat.le_of_ble_eq_true rfl)) (r' := .p 20) (M' := [.xd [("place", .d x)], .xo (cs 11) "no such puzzle" (.p 0), .xd [("place", .d x)], .xo (cs 11) "no such puzzle" (.p 2), .xd [("place", .d x)], .xo (cs 20) "no such word" (.p 4), .xd [("place", .d x)], .xo (cs 20) "no such word" (.p 6), .lst [.t [.p 1, .p 3, .d (.str "BadPuzzle")], .t [.p 5, .p 7, .d (.str "BadWord")]], .xd [("place", .d x)], .xo (cs 12) "no such recipe" (.p 9), .xd [("place", .d x)], .xo (cs 12) "no such recipe" (.p 11), .lst [.t [.p 10, .p 12, .d (.str "BadRecipe")]], .lst [.t [.p 1, .p 3, .d (.str "BadPuzzle")], .t [.p 5, .p 7, .d (.str "BadWord")], .t [.p 10, .p 12, .d (.str "BadRecipe")]], .xd [("place", .d x)], .xo (cs 3) "no such ladder" (.p 15), .xd [("place", .d x)], .xo (cs 3) "no such ladder" (.p 17), .lst [.t [.p 16, .p 18, .d (.str "BadLadder")]], .lst [.t [.p 1, .p 3, .d (.str "BadPuzzle")], .t [.p 5, .p 7, .d (.str "BadWord")], .t [.p 10, .p 12, .d (.str "BadRecipe")], .t [.p 16, .p 18, .d (.str "BadLadder")]]]) rfl rfl)
      · refine bx_cons ?_
        apply sx_set 1
        · exact ex_bin (ex_var 1) (ex_to (s := .p 25) (M2 := [.xd [("place", .d x)], .xo (cs 11) "no such puzzle" (.p 0), .xd [("place", .d x)], .xo (cs 11) "no such puzzle" (.p 2), .xd [("place", .d x)], .xo (cs 20) "no such word" (.p 4), .xd [("place", .d x)], .xo (cs 20) "no such word" (.p 6), .lst [.t [.p 1, .p 3, .d (.str "BadPuzzle")], .t [.p 5, .p 7, .d (.str "BadWord")]], .xd [("place", .d x)], .xo (cs 12) "no such recipe" (.p 9), .xd [("place", .d x)], .xo (cs 12) "no such recipe" (.p 11), .lst [.t [.p 10, .p 12, .d (.str "BadRecipe")]], .lst [.t [.p 1, .p 3, .d (.str "BadPuzzle")], .t [.p 5, .p 7, .d (.str "BadWord")], .t [.p 10, .p 12, .d (.str "BadRecipe")]], .xd [("place", .d x)], .xo (cs 3) "no such ladder" (.p 15), .xd [("place", .d x)], .xo (cs 3) "no such ladder" (.p 17), .lst [.t [.p 16, .p 18, .d (.str "BadLadder")]], .lst [.t [.p 1, .p 3, .d (.str "BadPuzzle")], .t [.p 5, .p 7, .d (.str "BadWord")], .t [.p 10, .p 12, .d (.str "BadRecipe")], .t [.p 16, .p 18, .d (.str "BadLadder")]], .xd [("place", .d x)], .xo (cs 7) "no such paper" (.p 21), .xd [("place", .d x)], .xo (cs 7) "no such paper" (.p 23), .lst [.t [.p 22, .p 24, .d (.str "BadPaper")]]]) (ex_list (ea_cons (ex_to (s := .t [.p 22, .p 24, .d (.str "BadPaper")]) (M2 := [.xd [("place", .d x)], .xo (cs 11) "no such puzzle" (.p 0), .xd [("place", .d x)], .xo (cs 11) "no such puzzle" (.p 2), .xd [("place", .d x)], .xo (cs 20) "no such word" (.p 4), .xd [("place", .d x)], .xo (cs 20) "no such word" (.p 6), .lst [.t [.p 1, .p 3, .d (.str "BadPuzzle")], .t [.p 5, .p 7, .d (.str "BadWord")]], .xd [("place", .d x)], .xo (cs 12) "no such recipe" (.p 9), .xd [("place", .d x)], .xo (cs 12) "no such recipe" (.p 11), .lst [.t [.p 10, .p 12, .d (.str "BadRecipe")]], .lst [.t [.p 1, .p 3, .d (.str "BadPuzzle")], .t [.p 5, .p 7, .d (.str "BadWord")], .t [.p 10, .p 12, .d (.str "BadRecipe")]], .xd [("place", .d x)], .xo (cs 3) "no such ladder" (.p 15), .xd [("place", .d x)], .xo (cs 3) "no such ladder" (.p 17), .lst [.t [.p 16, .p 18, .d (.str "BadLadder")]], .lst [.t [.p 1, .p 3, .d (.str "BadPuzzle")], .t [.p 5, .p 7, .d (.str "BadWord")], .t [.p 10, .p 12, .d (.str "BadRecipe")], .t [.p 16, .p 18, .d (.str "BadLadder")]], .xd [("place", .d x)], .xo (cs 7) "no such paper" (.p 21), .xd [("place", .d x)], .xo (cs 7) "no such paper" (.p 23)]) (ex_tup (ea_cons (ex_to (s := .p 22) (M2 := [.xd [("place", .d x)], .xo (cs 11) "no such puzzle" (.p 0), .xd [("place", .d x)], .xo (cs 11) "no such puzzle" (.p 2), .xd [("place", .d x)], .xo (cs 20) "no such word" (.p 4), .xd [("place", .d x)], .xo (cs 20) "no such word" (.p 6), .lst [.t [.p 1, .p 3, .d (.str "BadPuzzle")], .t [.p 5, .p 7, .d (.str "BadWord")]], .xd [("place", .d x)], .xo (cs 12) "no such recipe" (.p 9), .xd [("place", .d x)], .xo (cs 12) "no such recipe" (.p 11), .lst [.t [.p 10, .p 12, .d (.str "BadRecipe")]], .lst [.t [.p 1, .p 3, .d (.str "BadPuzzle")], .t [.p 5, .p 7, .d (.str "BadWord")], .t [.p 10, .p 12, .d (.str "BadRecipe")]], .xd [("place", .d x)], .xo (cs 3) "no such ladder" (.p 15), .xd [("place", .d x)], .xo (cs 3) "no such ladder" (.p 17), .lst [.t [.p 16, .p 18, .d (.str "BadLadder")]], .lst [.t [.p 1, .p 3, .d (.str "BadPuzzle")], .t [.p 5, .p 7, .d (.str "BadWord")], .t [.p 10, .p 12, .d (.str "BadRecipe")], .t [.p 16, .p 18, .d (.str "BadLadder")]], .xd [("place", .d x)], .xo (cs 7) "no such paper" (.p 21)]) (ex_mkx w7 (ex_var 0)) rfl rfl) (ea_cons (ex_to (s := .p 24) (M2 := [.xd [("place", .d x)], .xo (cs 11) "no such puzzle" (.p 0), .xd [("place", .d x)], .xo (cs 11) "no such puzzle" (.p 2), .xd [("place", .d x)], .xo (cs 20) "no such word" (.p 4), .xd [("place", .d x)], .xo (cs 20) "no such word" (.p 6), .lst [.t [.p 1, .p 3, .d (.str "BadPuzzle")], .t [.p 5, .p 7, .d (.str "BadWord")]], .xd [("place", .d x)], .xo (cs 12) "no such recipe" (.p 9), .xd [("place", .d x)], .xo (cs 12) "no such recipe" (.p 11), .lst [.t [.p 10, .p 12, .d (.str "BadRecipe")]], .lst [.t [.p 1, .p 3, .d (.str "BadPuzzle")], .t [.p 5, .p 7, .d (.str "BadWord")], .t [.p 10, .p 12, .d (.str "BadRecipe")]], .xd [("place", .d x)], .xo (cs 3) "no such ladder" (.p 15), .xd [("place", .d x)], .xo (cs 3) "no such ladder" (.p 17), .lst [.t [.p 16, .p 18, .d (.str "BadLadder")]], .lst [.t [.p 1, .p 3, .d (.str "BadPuzzle")], .t [.p 5, .p 7, .d (.str "BadWord")], .t [.p 10, .p 12, .d (.str "BadRecipe")], .t [.p 16, .p 18, .d (.str "BadLadder")]], .xd [("place", .d x)], .xo (cs 7) "no such paper" (.p 21), .xd [("place", .d x)], .xo (cs 7) "no such paper" (.p 23)]) (ex_mkxK w7 (ex_var 0)) rfl rfl) (ea_cons ex_str ea_nil))) (Nat.le_of_ble_eq_true rfl)) rfl rfl) (ea_nil)) (Nat.le_of_ble_eq_true rfl)) rfl rfl) (OS.to (os_cat (xs := [.t [.p 1, .p 3, .d (.str "BadPuzzle")], .t [.p 5, .p 7, .d (.str "BadWord")], .t [.p 10, .p 12, .d (.str "BadRecipe")], .t [.p 16, .p 18, .d (.str "BadLadder")]]) (ys := [.t [.p 22, .p 24, .d (.str "BadPaper")]]) rfl rfl (Nat.le_of_ble_eq_true rfl)) (r' := .p 26) (M' := [.xd [("place", .d x)], .xo (cs 11) "no such puzzle" (.p 0), .xd [("place", .d x)], .xo (cs 11) "no such puzzle" (.p 2), .xd [("place", .d x)], .xo (cs 20) "no such word" (.p 4), .xd [("place", .d x)], .xo (cs 20) "no such word" (.p 6), .lst [.t [.p 1, .p 3, .d (.str "BadPuzzle")], .t [.p 5, .p 7, .d (.str "BadWord")]], .xd [("place", .d x)], .xo (cs 12) "no such recipe" (.p 9), .xd [("place", .d x)], .xo (cs 12) "no such recipe" (.p 11), .lst [.t [.p 10, .p 12, .d (.str "BadRecipe")]], .lst [.t [.p 1, .p 3, .d (.str "BadPuzzle")], .t [.p 5, .p 7, .d (.str "BadWord")], .t [.p 10, .p 12, .d (.str "BadRecipe")]], .xd [("place", .d x)], .xo (cs 3) "no such ladder" (.p 15), .xd [("place", .d x)], .xo (cs 3) "no such ladder" (.p 17), .lst [.t [.p 16, .p 18, .d (.str "BadLadder")]], .lst [.t [.p 1, .p 3, .d (.str "BadPuzzle")], .t [.p 5, .p 7, .d (.str "BadWord")], .t [.p 10, .p 12, .d (.str "BadRecipe")], .t [.p 16, .p 18, .d (.str "BadLadder")]], .xd [("place", .d x)], .xo (cs 7) "no such paper" (.p 21), .xd [("place", .d x)], .xo (cs 7) "no such paper" (.p 23), .lst [.t [.p 22, .p 24, .d (.str "BadPaper")]], .lst [.t [.p 1, .p 3, .d (.str "BadPuzzle")], .t [.p 5, .p 7, .d (.str "BadWord")], .t [.p 10, .p 12, .d (.str "BadRecipe")], .t [.p 16, .p 18, .d (.str "BadLadder")], .t [.p 22, .p 24, .d (.str "BadPaper")]]]) rfl rfl)
        · refine bx_cons ?_
          apply sx_set 1
          · exact ex_bin (ex_var 1) (ex_to (s := .p 31) (M2 := [.xd [("place", .d x)], .xo (cs 11) "no such puzzle" (.p 0), .xd [("place", .d x)], .xo (cs 11) "no such puzzle" (.p 2), .xd [("place", .d x)], .xo (cs 20) "no such word" (.p 4), .xd [("place", .d x)], .xo (cs 20) "no such word" (.p 6), .lst [.t [.p 1, .p 3, .d (.str "BadPuzzle")], .t [.p 5, .p 7, .d (.str "BadWord")]], .xd [("place", .d x)], .xo (cs 12) "no such recipe" (.p 9), .xd [("place", .d x)], .xo (cs 12) "no such recipe" (.p 11), .lst [.t [.p 10, .p 12, .d (.str "BadRecipe")]], .lst [.t [.p 1, .p 3, .d (.str "BadPuzzle")], .t [.p 5, .p 7, .d (.str "BadWord")], .t [.p 10, .p 12, .d (.str "BadRecipe")]], .xd [("place", .d x)], .xo (cs 3) "no such ladder" (.p 15), .xd [("place", .d x)], .xo (cs 3) "no such ladder" (.p 17), .lst [.t [.p 16, .p 18, .d (.str "BadLadder")]], .lst [.t [.p 1, .p 3, .d (.str "BadPuzzle")], .t [.p 5, .p 7, .d (.str "BadWord")], .t [.p 10, .p 12, .d (.str "BadRecipe")], .t [.p 16, .p 18, .d (.str "BadLadder")]], .xd [("place", .d x)], .xo (cs 7) "no such paper" (.p 21), .xd [("place", .d x)], .xo (cs 7) "no such paper" (.p 23), .lst [.t [.p 22, .p 24, .d (.str "BadPaper")]], .lst [.t [.p 1, .p 3, .d (.str "BadPuzzle")], .t [.p 5, .p 7, .d (.str "BadWord")], .t [.p 10, .p 12, .d (.str "BadRecipe")], .t [.p 16, .p 18, .d (.str "BadLadder")], .t [.p 22, .p 24, .d (.str "BadPaper")]], .xd [("place", .d x)], .xo (cs 9) "no such pieces" (.p 27), .xd [("place", .d x)], .xo (cs 9) "no such pieces" (.p 29), .lst [.t [.p 28, .p 30, .d (.str "BadPieces")]]]) (ex_list (ea_cons (ex_to (s := .t [.p 28, .p 30, .d (.str "BadPieces")]) (M2 := [.xd [("place", .d x)], .xo (cs 11) "no such puzzle" (.p 0), .xd [("place", .d x)], .xo (cs 11) "no such puzzle" (.p 2), .xd [("place", .d x)], .xo (cs 20) "no such word" (.p 4), .xd [("place", .d x)], .xo (cs 20) "no such word" (.p 6), .lst [.t [.p 1, .p 3, .d (.str "BadPuzzle")], .t [.p 5, .p 7, .d (.str "BadWord")]], .xd [("place", .d x)], .xo (cs 12) "no such recipe" (.p 9), .xd [("place", .d x)], .xo (cs 12) "no such recipe" (.p 11), .lst [.t [.p 10, .p 12, .d (.str "BadRecipe")]], .lst [.t [.p 1, .p 3, .d (.str "BadPuzzle")], .t [.p 5, .p 7, .d (.str "BadWord")], .t [.p 10, .p 12, .d (.str "BadRecipe")]], .xd [("place", .d x)], .xo (cs 3) "no such ladder" (.p 15), .xd [("place", .d x)], .xo (cs 3) "no such ladder" (.p 17), .lst [.t [.p 16, .p 18, .d (.str "BadLadder")]], .lst [.t [.p 1, .p 3, .d (.str "BadPuzzle")], .t [.p 5, .p 7, .d (.str "BadWord")], .t [.p 10, .p 12, .d (.str "BadRecipe")], .t [.p 16, .p 18, .d (.str "BadLadder")]], .xd [("place", .d x)], .xo (cs 7) "no such paper" (.p 21), .xd [("place", .d x)], .xo (cs 7) "no such paper" (.p 23), .lst [.t [.p 22, .p 24, .d (.str "BadPaper")]], .lst [.t [.p 1, .p 3, .d (.str "BadPuzzle")], .t [.p 5, .p 7, .d (.str "BadWord")], .t [.p 10, .p 12, .d (.str "BadRecipe")], .t [.p 16, .p 18, .d (.str "BadLadder")], .t [.p 22, .p 24, .d (.str "BadPaper")]], .xd [("place", .d x)], .xo (cs 9) "no such pieces" (.p 27), .xd [("place", .d x)], .xo (cs 9) "no such pieces" (.p 29)]) (ex_tup (ea_cons (ex_to (s := .p 28) (M2 := [.xd [("place", .d x)], .xo (cs 11) "no such puzzle" (.p 0), .xd [("place", .d x)], .xo (cs 11) "no such puzzle" (.p 2), .xd [("place", .d x)], .xo (cs 20) "no such word" (.p 4), .xd [("place", .d x)], .xo (cs 20) "no such word" (.p 6), .lst [.t [.p 1, .p 3, .d (.str "BadPuzzle")], .t [.p 5, .p 7, .d (.str "BadWord")]], .xd [("place", .d x)], .xo (cs 12) "no such recipe" (.p 9), .xd [("place", .d x)], .xo (cs 12) "no such recipe" (.p 11), .lst [.t [.p 10, .p 12, .d (.str "BadRecipe")]], .lst [.t [.p 1, .p 3, .d (.str "BadPuzzle")], .t [.p 5, .p 7, .d (.str "BadWord")], .t [.p 10, .p 12, .d (.str "BadRecipe")]], .xd [("place", .d x)], .xo (cs 3) "no such ladder" (.p 15), .xd [("place", .d x)], .xo (cs 3) "no such ladder" (.p 17), .lst [.t [.p 16, .p 18, .d (.str "BadLadder")]], .lst [.t [.p 1, .p 3, .d (.str "BadPuzzle")], .t [.p 5, .p 7, .d (.str "BadWord")], .t [.p 10, .p 12, .d (.str "BadRecipe")], .t [.p 16, .p 18, .d (.str "BadLadder")]], .xd [("place", .d x)], .xo (cs 7) "no such paper" (.p 21), .xd [("place", .d x)], .xo (cs 7) "no such paper" (.p 23), .lst [.t [.p 22, .p 24, .d (.str "BadPaper")]], .lst [.t [.p 1, .p 3, .d (.str "BadPuzzle")], .t [.p 5, .p 7, .d (.str "BadWord")], .t [.p 10, .p 12, .d (.str "BadRecipe")], .t [.p 16, .p 18, .d (.str "BadLadder")], .t [.p 22, .p 24, .d (.str "BadPaper")]], .xd [("place", .d x)], .xo (cs 9) "no such pieces" (.p 27)]) (ex_mkx w9 (ex_var 0)) rfl rfl) (ea_cons (ex_to (s := .p 30) (M2 := [.xd [("place", .d x)], .xo (cs 11) "no such puzzle" (.p 0), .xd [("place", .d x)], .xo (cs 11) "no such puzzle" (.p 2), .xd [("place", .d x)], .xo (cs 20) "no such word" (.p 4), .xd [("place", .d x)], .xo (cs 20) "no such word" (.p 6), .lst [.t [.p 1, .p 3, .d (.str "BadPuzzle")], .t [.p 5, .p 7, .d (.str "BadWord")]], .xd [("place", .d x)], .xo (cs 12) "no such recipe" (.p 9), .xd [("place", .d x)], .xo (cs 12) "no such recipe" (.p 11), .lst [.t [.p 10, .p 12, .d (.str "BadRecipe")]], .lst [.t [.p 1, .p 3, .d (.str "BadPuzzle")], .t [.p 5, .p 7, .d (.str "BadWord")], .t [.p 10, .p 12, .d (.str "BadRecipe")]], .xd [("place", .d x)], .xo (cs 3) "no such ladder" (.p 15), .xd [("place", .d x)], .xo (cs 3) "no such ladder" (.p 17), .lst [.t [.p 16, .p 18, .d (.str "BadLadder")]], .lst [.t [.p 1, .p 3, .d (.str "BadPuzzle")], .t [.p 5, .p 7, .d (.str "BadWord")], .t [.p 10, .p 12, .d (.str "BadRecipe")], .t [.p 16, .p 18, .d (.str "BadLadder")]], .xd [("place", .d x)], .xo (cs 7) "no such paper" (.p 21), .xd [("place", .d x)], .xo (cs 7) "no such paper" (.p 23), .lst [.t [.p 22, .p 24, .d (.str "BadPaper")]], .lst [.t [.p 1, .p 3, .d (.str "BadPuzzle")], .t [.p 5, .p 7, .d (.str "BadWord")], .t [.p 10, .p 12, .d (.str "BadRecipe")], .t [.p 16, .p 18, .d (.str "BadLadder")], .t [.p 22, .p 24, .d (.str "BadPaper")]], .xd [("place", .d x)], .xo (cs 9) "no such pieces" (.p 27), .xd [("place", .d x)], .xo (cs 9) "no such pieces" (.p 29)]) (ex_mkxK w9 (ex_var 0)) rfl rfl) (ea_cons ex_str ea_nil))) (Nat.le_of_ble_eq_true rfl)) rfl rfl) (ea_nil)) (Nat.le_of_ble_eq_true rfl)) rfl rfl) (OS.to (os_cat (xs := [.t [.p 1, .p 3, .d (.str "BadPuzzle")], .t [.p 5, .p 7, .d (.str "BadWord")], .t [.p 10, .p 12, .d (.str "BadRecipe")], .t [.p 16, .p 18, .d (.str "BadLadder")], .t [.p 22, .p 24, .d (.str "BadPaper")]]) (ys := [.t [.p 28, .p 30, .d (.str "BadPieces")]]) rfl rfl (Nat.le_of_ble_eq_true rfl)) (r' := .p 32) (M' := [.xd [("place", .d x)], .xo (cs 11) "no such puzzle" (.p 0), .xd [("place", .d x)], .xo (cs 11) "no such puzzle" (.p 2), .xd [("place", .d x)], .xo (cs 20) "no such word" (.p 4), .xd [("place", .d x)], .xo (cs 20) "no such word" (.p 6), .lst [.t [.p 1, .p 3, .d (.str "BadPuzzle")], .t [.p 5, .p 7, .d (.str "BadWord")]], .xd [("place", .d x)], .xo (cs 12) "no such recipe" (.p 9), .xd [("place", .d x)], .xo (cs 12) "no such recipe" (.p 11), .lst [.t [.p 10, .p 12, .d (.str "BadRecipe")]], .lst [.t [.p 1, .p 3, .d (.str "BadPuzzle")], .t [.p 5, .p 7, .d (.str "BadWord")], .t [.p 10, .p 12, .d (.str "BadRecipe")]], .xd [("place", .d x)], .xo (cs 3) "no such ladder" (.p 15), .xd [("place", .d x)], .xo (cs 3) "no such ladder" (.p 17), .lst [.t [.p 16, .p 18, .d (.str "BadLadder")]], .lst [.t [.p 1, .p 3, .d (.str "BadPuzzle")], .t [.p 5, .p 7, .d (.str "BadWord")], .t [.p 10, .p 12, .d (.str "BadRecipe")], .t [.p 16, .p 18, .d (.str "BadLadder")]], .xd [("place", .d x)], .xo (cs 7) "no such paper" (.p 21), .xd [("place", .d x)], .xo (cs 7) "no such paper" (.p 23), .lst [.t [.p 22, .p 24, .d (.str "BadPaper")]], .lst [.t [.p 1, .p 3, .d (.str "BadPuzzle")], .t [.p 5, .p 7, .d (.str "BadWord")], .t [.p 10, .p 12, .d (.str "BadRecipe")], .t [.p 16, .p 18, .d (.str "BadLadder")], .t [.p 22, .p 24, .d (.str "BadPaper")]], .xd [("place", .d x)], .xo (cs 9) "no such pieces" (.p 27), .xd [("place", .d x)], .xo (cs 9) "no such pieces" (.p 29), .lst [.t [.p 28, .p 30, .d (.str "BadPieces")]], .lst [.t [.p 1, .p 3, .d (.str "BadPuzzle")], .t [.p 5, .p 7, .d (.str "BadWord")], .t [.p 10, .p 12, .d (.str "BadRecipe")], .t [.p 16, .p 18, .d (.str "BadLadder")], .t [.p 22, .p 24, .d (.str "BadPaper")], .t [.p 28, .p 30, .d (.str "BadPieces")]]]) rfl rfl)
          · refine bx_cons ?_
            apply sx_set 1
            · exact ex_bin (ex_var 1) (ex_to (s := .p 41) (M2 := [.xd [("place", .d x)], .xo (cs 11) "no such puzzle" (.p 0), .xd [("place", .d x)], .xo (cs 11) "no such puzzle" (.p 2), .xd [("place", .d x)], .xo (cs 20) "no such word" (.p 4), .xd [("place", .d x)], .xo (cs 20) "no such word" (.p 6), .lst [.t [.p 1, .p 3, .d (.str "BadPuzzle")], .t [.p 5, .p 7, .d (.str "BadWord")]], .xd [("place", .d x)], .xo (cs 12) "no such recipe" (.p 9), .xd [("place", .d x)], .xo (cs 12) "no such recipe" (.p 11), .lst [.t [.p 10, .p 12, .d (.str "BadRecipe")]], .lst [.t [.p 1, .p 3, .d (.str "BadPuzzle")], .t [.p 5, .p 7, .d (.str "BadWord")], .t [.p 10, .p 12, .d (.str "BadRecipe")]], .xd [("place", .d x)], .xo (cs 3) "no such ladder" (.p 15), .xd [("place", .d x)], .xo (cs 3) "no such ladder" (.p 17), .lst [.t [.p 16, .p 18, .d (.str "BadLadder")]], .lst [.t [.p 1, .p 3, .d (.str "BadPuzzle")], .t [.p 5, .p 7, .d (.str "BadWord")], .t [.p 10, .p 12, .d (.str "BadRecipe")], .t [.p 16, .p 18, .d (.str "BadLadder")]], .xd [("place", .d x)], .xo (cs 7) "no such paper" (.p 21), .xd [("place", .d x)], .xo (cs 7) "no such paper" (.p 23), .lst [.t [.p 22, .p 24, .d (.str "BadPaper")]], .lst [.t [.p 1, .p 3, .d (.str "BadPuzzle")], .t [.p 5, .p 7, .d (.str "BadWord")], .t [.p 10, .p 12, .d (.str "BadRecipe")], .t [.p 16, .p 18, .d (.str "BadLadder")], .t [.p 22, .p 24, .d (.str "BadPaper")]], .xd [("place", .d x)], .xo (cs 9) "no such pieces" (.p 27), .xd [("place", .d x)], .xo (cs 9) "no such pieces" (.p 29), .lst [.t [.p 28, .p 30, .d (.str "BadPieces")]], .lst [.t [.p 1, .p 3, .d (.str "BadPuzzle")], .t [.p 5, .p 7, .d (.str "BadWord")], .t [.p 10, .p 12, .d (.str "BadRecipe")], .t [.p 16, .p 18, .d (.str "BadLadder")], .t [.p 22, .p 24, .d (.str "BadPaper")], .t [.p 28, .p 30, .d (.str "BadPieces")]], .xd [("place", .d x)], .xo (cs 2) "no such glue" (.p 33), .xd [("place", .d x)], .xo (cs 2) "no such glue" (.p 35), .xd [("place", .d x)], .xo (cs 19) "no such web" (.p 37), .xd [("place", .d x)], .xo (cs 19) "no such web" (.p 39), .lst [.t [.p 34, .p 36, .d (.str "BadGlue")], .t [.p 38, .p 40, .d (.str "BadWeb")]]]) (ex_list (ea_cons (ex_to (s := .t [.p 34, .p 36, .d (.str "BadGlue")]) (M2 := [.xd [("place", .d x)], .xo (cs 11) "no such puzzle" (.p 0), .xd [("place", .d x)], .xo (cs 11) "no such puzzle" (.p 2), .xd [("place", .d x)], .xo (cs 20) "no such word" (.p 4), .xd [("place", .d x)], .xo (cs 20) "no such word" (.p 6), .lst [.t [.p 1, .p 3, .d (.str "BadPuzzle")], .t [.p 5, .p 7, .d (.str "BadWord")]], .xd [("place", .d x)], .xo (cs 12) "no such recipe" (.p 9), .xd [("place", .d x)], .xo (cs 12) "no such recipe" (.p 11), .lst [.t [.p 10, .p 12, .d (.str "BadRecipe")]], .lst [.t [.p 1, .p 3, .d (.str "BadPuzzle")], .t [.p 5, .p 7, .d (.str "BadWord")], .t [.p 10, .p 12, .d (.str "BadRecipe")]], .xd [("place", .d x)], .xo (cs 3) "no such ladder" (.p 15), .xd [("place", .d x)], .xo (cs 3) "no such ladder" (.p 17), .lst [.t [.p 16, .p 18, .d (.str "BadLadder")]], .lst [.t [.p 1, .p 3, .d (.str "BadPuzzle")], .t [.p 5, .p 7, .d (.str "BadWord")], .t [.p 10, .p 12, .d (.str "BadRecipe")], .t [.p 16, .p 18, .d (.str "BadLadder")]], .xd [("place", .d x)], .xo (cs 7) "no such paper" (.p 21), .xd [("place", .d x)], .xo (cs 7) "no such paper" (.p 23), .lst [.t [.p 22, .p 24, .d (.str "BadPaper")]], .lst [.t [.p 1, .p 3, .d (.str "BadPuzzle")], .t [.p 5, .p 7, .d (.str "BadWord")], .t [.p 10, .p 12, .d (.str "BadRecipe")], .t [.p 16, .p 18, .d (.str "BadLadder")], .t [.p 22, .p 24, .d (.str "BadPaper")]], .xd [("place", .d x)], .xo (cs 9) "no such pieces" (.p 27), .xd [("place", .d x)], .xo (cs 9) "no such pieces" (.p 29), .lst [.t [.p 28, .p 30, .d (.str "BadPieces")]], .lst [.t [.p 1, .p 3, .d (.str "BadPuzzle")], .t [.p 5, .p 7, .d (.str "BadWord")], .t [.p 10, .p 12, .d (.str "BadRecipe")], .t [.p 16, .p 18, .d (.str "BadLadder")], .t [.p 22, .p 24, .d (.str "BadPaper")], .t [.p 28, .p 30, .d (.str "BadPieces")]], .xd [("place", .d x)], .xo (cs 2) "no such glue" (.p 33), .xd [("place", .d x)], .xo (cs 2) "no such glue" (.p 35)]) (ex_tup (ea_cons (ex_to (s := .p 34) (M2 := [.xd [("place", .d x)], .xo (cs 11) "no such puzzle" (.p 0), .xd [("place", .d x)], .xo (cs 11) "no such puzzle" (.p 2), .xd [("place", .d x)], .xo (cs 20) "no such word" (.p 4), .xd [("place", .d x)], .xo (cs 20) "no such word" (.p 6), .lst [.t [.p 1, .p 3, .d (.str "BadPuzzle")], .t [.p 5, .p 7, .d (.str "BadWord")]], .xd [("place", .d x)], .xo (cs 12) "no such recipe" (.p 9), .xd [("place", .d x)], .xo (cs 12) "no such recipe" (.p 11), .lst [.t [.p 10, .p 12, .d (.str "BadRecipe")]], .lst [.t [.p 1, .p 3, .d (.str "BadPuzzle")], .t [.p 5, .p 7, .d (.str "BadWord")], .t [.p 10, .p 12, .d (.str "BadRecipe")]], .xd [("place", .d x)], .xo (cs 3) "no such ladder" (.p 15), .xd [("place", .d x)], .xo (cs 3) "no such ladder" (.p 17), .lst [.t [.p 16, .p 18, .d (.str "BadLadder")]], .lst [.t [.p 1, .p 3, .d (.str "BadPuzzle")], .t [.p 5, .p 7, .d (.str "BadWord")], .t [.p 10, .p 12, .d (.str "BadRecipe")], .t [.p 16, .p 18, .d (.str "BadLadder")]], .xd [("place", .d x)], .xo (cs 7) "no such paper" (.p 21), .xd [("place", .d x)], .xo (cs 7) "no such paper" (.p 23), .lst [.t [.p 22, .p 24, .d (.str "BadPaper")]], .lst [.t [.p 1, .p 3, .d (.str "BadPuzzle")], .t [.p 5, .p 7, .d (.str "BadWord")], .t [.p 10, .p 12, .d (.str "BadRecipe")], .t [.p 16, .p 18, .d (.str "BadLadder")], .t [.p 22, .p 24, .d (.str "BadPaper")]], .xd [("place", .d x)], .xo (cs 9) "no such pieces" (.p 27), .xd [("place", .d x)], .xo (cs 9) "no such pieces" (.p 29), .lst [.t [.p 28, .p 30, .d (.str "BadPieces")]], .lst [.t [.p 1, .p 3, .d (.str "BadPuzzle")], .t [.p 5, .p 7, .d (.str "BadWord")], .t [.p 10, .p 12, .d (.str "BadRecipe")], .t [.p 16, .p 18, .d (.str "BadLadder")], .t [.p 22, .p 24, .d (.str "BadPaper")], .t [.p 28, .p 30, .d (.str "BadPieces")]], .xd [("place", .d x)], .xo (cs 2) "no such glue" (.p 33)]) (ex_mkx w2 (ex_var 0)) rfl rfl) (ea_cons (ex_to (s := .p 36) (M2 := [.xd [("place", .d x)], .xo (cs 11) "no such puzzle" (.p 0), .xd [("place", .d x)], .xo (cs 11) "no such puzzle" (.p 2), .xd [("place", .d x)], .xo (cs 20) "no such word" (.p 4), .xd [("place", .d x)], .xo (cs 20) "no such word" (.p 6), .lst [.t [.p 1, .p 3, .d (.str "BadPuzzle")], .t [.p 5, .p 7, .d (.str "BadWord")]], .xd [("place", .d x)], .xo (cs 12) "no such recipe" (.p 9), .xd [("place", .d x)], .xo (cs 12) "no such recipe" (.p 11), .lst [.t [.p 10, .p 12, .d (.str "BadRecipe")]], .lst [.t [.p 1, .p 3, .d (.str "BadPuzzle")], .t [.p 5, .p 7, .d (.str "BadWord")], .t [.p 10, .p 12, .d (.str "BadRecipe")]], .xd [("place", .d x)], .xo (cs 3) "no such ladder" (.p 15), .xd [("place", .d x)], .xo (cs 3) "no such ladder" (.p 17), .lst [.t [.p 16, .p 18, .d (.str "BadLadder")]], .lst [.t [.p 1, .p 3, .d (.str "BadPuzzle")], .t [.p 5, .p 7, .d (.str "BadWord")], .t [.p 10, .p 12, .d (.str "BadRecipe")], .t [.p 16, .p 18, .d (.str "BadLadder")]], .xd [("place", .d x)], .xo (cs 7) "no such paper" (.p 21), .xd [("place", .d x)], .xo (cs 7) "no such paper" (.p 23), .lst [.t [.p 22, .p 24, .d (.str "BadPaper")]], .lst [.t [.p 1, .p 3, .d (.str "BadPuzzle")], .t [.p 5, .p 7, .d (.str "BadWord")], .t [.p 10, .p 12, .d (.str "BadRecipe")], .t [.p 16, .p 18, .d (.str "BadLadder")], .t [.p 22, .p 24, .d (.str "BadPaper")]], .xd [("place", .d x)], .xo (cs 9) "no such pieces" (.p 27), .xd [("place", .d x)], .xo (cs 9) "no such pieces" (.p 29), .lst [.t [.p 28, .p 30, .d (.str "BadPieces")]], .lst [.t [.p 1, .p 3, .d (.str "BadPuzzle")], .t [.p 5, .p 7, .d (.str "BadWord")], .t [.p 10, .p 12, .d (.str "BadRecipe")], .t [.p 16, .p 18, .d (.str "BadLadder")], .t [.p 22, .p 24, .d (.str "BadPaper")], .t [.p 28, .p 30, .d (.str "BadPieces")]], .xd [("place", .d x)], .xo (cs 2) "no such glue" (.p 33), .xd [("place", .d x)], .xo (cs 2) "no such glue" (.p 35)]) (ex_mkxK w2 (ex_var 0)) rfl rfl) (ea_cons ex_str ea_nil))) (Nat.le_of_ble_eq_true rfl)) rfl rfl) (ea_cons (ex_to (s := .t [.p 38, .p 40, .d (.str "BadWeb")]) (M2 := [.xd [("place", .d x)], .xo (cs 11) "no such puzzle" (.p 0), .xd [("place", .d x)], .xo (cs 11) "no such puzzle" (.p 2), .xd [("place", .d x)], .xo (cs 20) "no such word" (.p 4), .xd [("place", .d x)], .xo (cs 20) "no such word" (.p 6), .lst [.t [.p 1, .p 3, .d (.str "BadPuzzle")], .t [.p 5, .p 7, .d (.str "BadWord")]], .xd [("place", .d x)], .xo (cs 12) "no such recipe" (.p 9), .xd [("place", .d x)], .xo (cs 12) "no such recipe" (.p 11), .lst [.t [.p 10, .p 12, .d (.str "BadRecipe")]], .lst [.t [.p 1, .p 3, .d (.str "BadPuzzle")], .t [.p 5, .p 7, .d (.str "BadWord")], .t [.p 10, .p 12, .d (.str "BadRecipe")]], .xd [("place", .d x)], .xo (cs 3) "no such ladder" (.p 15), .xd [("place", .d x)], .xo (cs 3) "no such ladder" (.p 17), .lst [.t [.p 16, .p 18, .d (.str "BadLadder")]], .lst [.t [.p 1, .p 3, .d (.str "BadPuzzle")], .t [.p 5, .p 7, .d (.str "BadWord")], .t [.p 10, .p 12, .d (.str "BadRecipe")], .t [.p 16, .p 18, .d (.str "BadLadder")]], .xd [("place", .d x)], .xo (cs 7) "no such paper" (.p 21), .xd [("place", .d x)], .xo (cs 7) "no such paper" (.p 23), .lst [.t [.p 22, .p 24, .d (.str "BadPaper")]], .lst [.t [.p 1, .p 3, .d (.str "BadPuzzle")], .t [.p 5, .p 7, .d (.str "BadWord")], .t [.p 10, .p 12, .d (.str "BadRecipe")], .t [.p 16, .p 18, .d (.str "BadLadder")], .t [.p 22, .p 24, .d (.str "BadPaper")]], .xd [("place", .d x)], .xo (cs 9) "no such pieces" (.p 27), .xd [("place", .d x)], .xo (cs 9) "no such pieces" (.p 29), .lst [.t [.p 28, .p 30, .d (.str "BadPieces")]], .lst [.t [.p 1, .p 3, .d (.str "BadPuzzle")], .t [.p 5, .p 7, .d (.str "BadWord")], .t [.p 10, .p 12, .d (.str "BadRecipe")], .t [.p 16, .p 18, .d (.str "BadLadder")], .t [.p 22, .p 24, .d (.str "BadPaper")], .t [.p 28, .p 30, .d (.str "BadPieces")]], .xd [("place", .d x)], .xo (cs 2) "no such glue" (.p 33), .xd [("place", .d x)], .xo (cs 2) "no such glue" (.p 35), .xd [("place", .d x)], .xo (cs 19) "no such web" (.p 37), .xd [("place", .d x)], .xo (cs 19) "no such web" (.p 39)]) (ex_tup (ea_cons (ex_to (s := .p 38) (M2 := [.xd [("place", .d x)], .xo (cs 11) "no such puzzle" (.p 0), .xd [("place", .d x)], .xo (cs 11) "no such puzzle" (.p 2), .xd [("place", .d x)], .xo (cs 20) "no such word" (.p 4), .xd [("place", .d x)], .xo (cs 20) "no such word" (.p 6), .lst [.t [.p 1, .p 3, .d (.str "BadPuzzle")], .t [.p 5, .p 7, .d (.str "BadWord")]], .xd [("place", .d x)], .xo (cs 12) "no such recipe" (.p 9), .xd [("place", .d x)], .xo (cs 12) "no such recipe" (.p 11), .lst [.t [.p 10, .p 12, .d (.str "BadRecipe")]], .lst [.t [.p 1, .p 3, .d (.str "BadPuzzle")], .t [.p 5, .p 7, .d (.str "BadWord")], .t [.p 10, .p 12, .d (.str "BadRecipe")]], .xd [("place", .d x)], .xo (cs 3) "no such ladder" (.p 15), .xd [("place", .d x)], .xo (cs 3) "no such ladder" (.p 17), .lst [.t [.p 16, .p 18, .d (.str "BadLadder")]], .lst [.t [.p 1, .p 3, .d (.str "BadPuzzle")], .t [.p 5, .p 7, .d (.str "BadWord")], .t [.p 10, .p 12, .d (.str "BadRecipe")], .t [.p 16, .p 18, .d (.str "BadLadder")]], .xd [("place", .d x)], .xo (cs 7) "no such paper" (.p 21), .xd [("place", .d x)], .xo (cs 7) "no such paper" (.p 23), .lst [.t [.p 22, .p 24, .d (.str "BadPaper")]], .lst [.t [.p 1, .p 3, .d (.str "BadPuzzle")], .t [.p 5, .p 7, .d (.str "BadWord")], .t [.p 10, .p 12, .d (.str "BadRecipe")], .t [.p 16, .p 18, .d (.str "BadLadder")], .t [.p 22, .p 24, .d (.str "BadPaper")]], .xd [("place", .d x)], .xo (cs 9) "no such pieces" (.p 27), .xd [("place", .d x)], .xo (cs 9) "no such pieces" (.p 29), .lst [.t [.p 28, .p 30, .d (.str "BadPieces")]], .lst [.t [.p 1, .p 3, .d (.str "BadPuzzle")], .t [.p 5, .p 7, .d (.str "BadWord")], .t [.p 10, .p 12, .d (.str "BadRecipe")], .t [.p 16, .p 18, .d (.str "BadLadder")], .t [.p 22, .p 24, .d (.str "BadPaper")], .t [.p 28, .p 30, .d (.str "BadPieces")]], .xd [("place", .d x)], .xo (cs 2) "no such glue" (.p 33), .xd [("place", .d x)], .xo (cs 2) "no such glue" (.p 35), .xd [("place", .d x)], .xo (cs 19) "no such web" (.p 37)]) (ex_mkx w19 (ex_var 0)) rfl rfl) (ea_cons (ex_to (s := .p 40) (M2 := [.xd [("place", .d x)], .xo (cs 11) "no such puzzle" (.p 0), .xd [("place", .d x)], .xo (cs 11) "no such puzzle" (.p 2), .xd [("place", .d x)], .xo (cs 20) "no such word" (.p 4), .xd [("place", .d x)], .xo (cs 20) "no such word" (.p 6), .lst [.t [.p 1, .p 3, .d (.str "BadPuzzle")], .t [.p 5, .p 7, .d (.str "BadWord")]], .xd [("place", .d x)], .xo (cs 12) "no such recipe" (.p 9), .xd [("place", .d x)], .xo (cs 12) "no such recipe" (.p 11), .lst [.t [.p 10, .p 12, .d (.str "BadRecipe")]], .lst [.t [.p 1, .p 3, .d (.str "BadPuzzle")], .t [.p 5, .p 7, .d (.str "BadWord")], .t [.p 10, .p 12, .d (.str "BadRecipe")]], .xd [("place", .d x)], .xo (cs 3) "no such ladder" (.p 15), .xd [("place", .d x)], .xo (cs 3) "no such ladder" (.p 17), .lst [.t [.p 16, .p 18, .d (.str "BadLadder")]], .lst [.t [.p 1, .p 3, .d (.str "BadPuzzle")], .t [.p 5, .p 7, .d (.str "BadWord")], .t [.p 10, .p 12, .d (.str "BadRecipe")], .t [.p 16, .p 18, .d (.str "BadLadder")]], .xd [("place", .d x)], .xo (cs 7) "no such paper" (.p 21), .xd [("place", .d x)], .xo (cs 7) "no such paper" (.p 23), .lst [.t [.p 22, .p 24, .d (.str "BadPaper")]], .lst [.t [.p 1, .p 3, .d (.str "BadPuzzle")], .t [.p 5, .p 7, .d (.str "BadWord")], .t [.p 10, .p 12, .d (.str "BadRecipe")], .t [.p 16, .p 18, .d (.str "BadLadder")], .t [.p 22, .p 24, .d (.str "BadPaper")]], .xd [("place", .d x)], .xo (cs 9) "no such pieces" (.p 27), .xd [("place", .d x)], .xo (cs 9) "no such pieces" (.p 29), .lst [.t [.p 28, .p 30, .d (.str "BadPieces")]], .lst [.t [.p 1, .p 3, .d (.str "BadPuzzle")], .t [.p 5, .p 7, .d (.str "BadWord")], .t [.p 10, .p 12, .d (.str "BadRecipe")], .t [.p 16, .p 18, .d (.str "BadLadder")], .t [.p 22, .p 24, .d (.str "BadPaper")], .t [.p 28, .p 30, .d (.str "BadPieces")]], .xd [("place", .d x)], .xo (cs 2) "no such glue" (.p 33), .xd [("place", .d x)], .xo (cs 2) "no such glue" (.p 35), .xd [("place", .d x)], .xo (cs 19) "no such web" (.p 37), .xd [("place", .d x)], .xo (cs 19) "no such web" (.p 39)]) (ex_mkxK w19 (ex_var 0)) rfl rfl) (ea_cons ex_str ea_nil))) (Nat.le_of_ble_eq_true rfl)) rfl rfl) (ea_nil))) (Nat.le_of_ble_eq_true rfl)) rfl rfl) (OS.to (os_cat (xs := [.t [.p 1, .p 3, .d (.str "BadPuzzle")], .t [.p 5, .p 7, .d (.str "BadWord")], .t [.p 10, .p 12, .d (.str "BadRecipe")], .t [.p 16, .p 18, .d (.str "BadLadder")], .t [.p 22, .p 24, .d (.str "BadPaper")], .t [.p 28, .p 30, .d (.str "BadPieces")]]) (ys := [.t [.p 34, .p 36, .d (.str "BadGlue")], .t [.p 38, .p 40, .d (.str "BadWeb")]]) rfl rfl (Nat.le_of_ble_eq_true rfl)) (r' := .p 42) (M' := [.xd [("place", .d x)], .xo (cs 11) "no such puzzle" (.p 0), .xd [("place", .d x)], .xo (cs 11) "no such puzzle" (.p 2), .xd [("place", .d x)], .xo (cs 20) "no such word" (.p 4), .xd [("place", .d x)], .xo (cs 20) "no such word" (.p 6), .lst [.t [.p 1, .p 3, .d (.str "BadPuzzle")], .t [.p 5, .p 7, .d (.str "BadWord")]], .xd [("place", .d x)], .xo (cs 12) "no such recipe" (.p 9), .xd [("place", .d x)], .xo (cs 12) "no such recipe" (.p 11), .lst [.t [.p 10, .p 12, .d (.str "BadRecipe")]], .lst [.t [.p 1, .p 3, .d (.str "BadPuzzle")], .t [.p 5, .p 7, .d (.str "BadWord")], .t [.p 10, .p 12, .d (.str "BadRecipe")]], .xd [("place", .d x)], .xo (cs 3) "no such ladder" (.p 15), .xd [("place", .d x)], .xo (cs 3) "no such ladder" (.p 17), .lst [.t [.p 16, .p 18, .d (.str "BadLadder")]], .lst [.t [.p 1, .p 3, .d (.str "BadPuzzle")], .t [.p 5, .p 7, .d (.str "BadWord")], .t [.p 10, .p 12, .d (.str "BadRecipe")], .t [.p 16, .p 18, .d (.str "BadLadder")]], .xd [("place", .d x)], .xo (cs 7) "no such paper" (.p 21), .xd [("place", .d x)], .xo (cs 7) "no such paper" (.p 23), .lst [.t [.p 22, .p 24, .d (.str "BadPaper")]], .lst [.t [.p 1, .p 3, .d (.str "BadPuzzle")], .t [.p 5, .p 7, .d (.str "BadWord")], .t [.p 10, .p 12, .d (.str "BadRecipe")], .t [.p 16, .p 18, .d (.str "BadLadder")], .t [.p 22, .p 24, .d (.str "BadPaper")]], .xd [("place", .d x)], .xo (cs 9) "no such pieces" (.p 27), .xd [("place", .d x)], .xo (cs 9) "no such pieces" (.p 29), .lst [.t [.p 28, .p 30, .d (.str "BadPieces")]], .lst [.t [.p 1, .p 3, .d (.str "BadPuzzle")], .t [.p 5, .p 7, .d (.str "BadWord")], .t [.p 10, .p 12, .d (.str "BadRecipe")], .t [.p 16, .p 18, .d (.str "BadLadder")], .t [.p 22, .p 24, .d (.str "BadPaper")], .t [.p 28, .p 30, .d (.str "BadPieces")]], .xd [("place", .d x)], .xo (cs 2) "no such glue" (.p 33), .xd [("place", .d x)], .xo (cs 2) "no such glue" (.p 35), .xd [("place", .d x)], .xo (cs 19) "no such web" (.p 37), .xd [("place", .d x)], .xo (cs 19) "no such web" (.p 39), .lst [.t [.p 34, .p 36, .d (.str "BadGlue")], .t [.p 38, .p 40, .d (.str "BadWeb")]], .lst [.t [.p 1, .p 3, .d (.str "BadPuzzle")], .t [.p 5, .p 7, .d (.str "BadWord")], .t [.p 10, .p 12, .d (.str "BadRecipe")], .t [.p 16, .p 18, .d (.str "BadLadder")], .t [.p 22, .p 24, .d (.str "BadPaper")], .t [.p 28, .p 30, .d (.str "BadPieces")], .t [.p 34, .p 36, .d (.str "BadGlue")], .t [.p 38, .p 40, .d (.str "BadWeb")]]]) rfl rfl)
            · refine bx_cons ?_
              apply sx_set 1
              · exact ex_bin (ex_var 1) (ex_to (s := .p 51) (M2 := [.xd [("place", .d x)], .xo (cs 11) "no such puzzle" (.p 0), .xd [("place", .d x)], .xo (cs 11) "no such puzzle" (.p 2), .xd [("place", .d x)], .xo (cs 20) "no such word" (.p 4), .xd [("place", .d x)], .xo (cs 20) "no such word" (.p 6), .lst [.t [.p 1, .p 3, .d (.str "BadPuzzle")], .t [.p 5, .p 7, .d (.str "BadWord")]], .xd [("place", .d x)], .xo (cs 12) "no such recipe" (.p 9), .xd [("place", .d x)], .xo (cs 12) "no such recipe" (.p 11), .lst [.t [.p 10, .p 12, .d (.str "BadRecipe")]], .lst [.t [.p 1, .p 3, .d (.str "BadPuzzle")], .t [.p 5, .p 7, .d (.str "BadWord")], .t [.p 10, .p 12, .d (.str "BadRecipe")]], .xd [("place", .d x)], .xo (cs 3) "no such ladder" (.p 15), .xd [("place", .d x)], .xo (cs 3) "no such ladder" (.p 17), .lst [.t [.p 16, .p 18, .d (.str "BadLadder")]], .lst [.t [.p 1, .p 3, .d (.str "BadPuzzle")], .t [.p 5, .p 7, .d (.str "BadWord")], .t [.p 10, .p 12, .d (.str "BadRecipe")], .t [.p 16, .p 18, .d (.str "BadLadder")]], .xd [("place", .d x)], .xo (cs 7) "no such paper" (.p 21), .xd [("place", .d x)], .xo (cs 7) "no such paper" (.p 23), .lst [.t [.p 22, .p 24, .d (.str "BadPaper")]], .lst [.t [.p 1, .p 3, .d (.str "BadPuzzle")], .t [.p 5, .p 7, .d (.str "BadWord")], .t [.p 10, .p 12, .d (.str "BadRecipe")], .t [.p 16, .p 18, .d (.str "BadLadder")], .t [.p 22, .p 24, .d (.str "BadPaper")]], .xd [("place", .d x)], .xo (cs 9) "no such pieces" (.p 27), .xd [("place", .d x)], .xo (cs 9) "no such pieces" (.p 29), .lst [.t [.p 28, .p 30, .d (.str "BadPieces")]], .lst [.t [.p 1, .p 3, .d (.str "BadPuzzle")], .t [.p 5, .p 7, .d (.str "BadWord")], .t [.p 10, .p 12, .d (.str "BadRecipe")], .t [.p 16, .p 18, .d (.str "BadLadder")], .t [.p 22, .p 24, .d (.str "BadPaper")], .t [.p 28, .p 30, .d (.str "BadPieces")]], .xd [("place", .d x)], .xo (cs 2) "no such glue" (.p 33), .xd [("place", .d x)], .xo (cs 2) "no such glue" (.p 35), .xd [("place", .d x)], .xo (cs 19) "no such web" (.p 37), .xd [("place", .d x)], .xo (cs 19) "no such web" (.p 39), .lst [.t [.p 34, .p 36, .d (.str "BadGlue")], .t [.p 38, .p 40, .d (.str "BadWeb")]], .lst [.t [.p 1, .p 3, .d (.str "BadPuzzle")], .t [.p 5, .p 7, .d (.str "BadWord")], .t [.p 10, .p 12, .d (.str "BadRecipe")], .t [.p 16, .p 18, .d (.str "BadLadder")], .t [.p 22, .p 24, .d (.str "BadPaper")], .t [.p 28, .p 30, .d (.str "BadPieces")], .t [.p 34, .p 36, .d (.str "BadGlue")], .t [.p 38, .p 40, .d (.str "BadWeb")]], .xd [("place", .d x)], .xo (cs 18) "no such text" (.p 43), .xd [("place", .d x)], .xo (cs 18) "no such text" (.p 45), .xd [("place", .d x)], .xo (cs 1) "no such deed" (.p 47), .xd [("place", .d x)], .xo (cs 1) "no such deed" (.p 49), .lst [.t [.p 44, .p 46, .d (.str "BadText")], .t [.p 48, .p 50, .d (.str "BadDeed")]]]) (ex_list (ea_cons (ex_to (s := .t [.p 44, .p 46, .d (.str "BadText")]) (M2 := [.xd [("place", .d x)], .xo (cs 11) "no such puzzle" (.p 0), .xd [("place", .d x)], .xo (cs 11) "no such puzzle" (.p 2), .xd [("place", .d x)], .xo (cs 20) "no such word" (.p 4), .xd [("place", .d x)], .xo (cs 20) "no such word" (.p 6), .lst [.t [.p 1, .p 3, .d (.str "BadPuzzle")], .t [.p 5, .p 7, .d (.str "BadWord")]], .xd [("place", .d x)], .xo (cs 12) "no such recipe" (.p 9), .xd [("place", .d x)], .xo (cs 12) "no such recipe" (.p 11), .lst [.t [.p 10, .p 12, .d (.str "BadRecipe")]], .lst [.t [.p 1, .p 3, .d (.str "BadPuzzle")], .t [.p 5, .p 7, .d (.str "BadWord")], .t [.p 10, .p 12, .d (.str "BadRecipe")]], .xd [("place", .d x)], .xo (cs 3) "no such ladder" (.p 15), .xd [("place", .d x)], .xo (cs 3) "no such ladder" (.p 17), .lst [.t [.p 16, .p 18, .d (.str "BadLadder")]], .lst [.t [.p 1, .p 3, .d (.str "BadPuzzle")], .t [.p 5, .p 7, .d (.str "BadWord")], .t [.p 10, .p 12, .d (.str "BadRecipe")], .t [.p 16, .p 18, .d (.str "BadLadder")]], .xd [("place", .d x)], .xo (cs 7) "no such paper" (.p 21), .xd [("place", .d x)], .xo (cs 7) "no such paper" (.p 23), .lst [.t [.p 22, .p 24, .d (.str "BadPaper")]], .lst [.t [.p 1, .p 3, .d (.str "BadPuzzle")], .t [.p 5, .p 7, .d (.str "BadWord")], .t [.p 10, .p 12, .d (.str "BadRecipe")], .t [.p 16, .p 18, .d (.str "BadLadder")], .t [.p 22, .p 24, .d (.str "BadPaper")]], .xd [("place", .d x)], .xo (cs 9) "no such pieces" (.p 27), .xd [("place", .d x)], .xo (cs 9) "no such pieces" (.p 29), .lst [.t [.p 28, .p 30, .d (.str "BadPieces")]], .lst [.t [.p 1, .p 3, .d (.str "BadPuzzle")], .t [.p 5, .p 7, .d (.str "BadWord")], .t [.p 10, .p 12, .d (.str "BadRecipe")], .t [.p 16, .p 18, .d (.str "BadLadder")], .t [.p 22, .p 24, .d (.str "BadPaper")], .t [.p 28, .p 30, .d (.str "BadPieces")]], .xd [("place", .d x)], .xo (cs 2) "no such glue" (.p 33), .xd [("place", .d x)], .xo (cs 2) "no such glue" (.p 35), .xd [("place", .d x)], .xo (cs 19) "no such web" (.p 37), .xd [("place", .d x)], .xo (cs 19) "no such web" (.p 39), .lst [.t [.p 34, .p 36, .d (.str "BadGlue")], .t [.p 38, .p 40, .d (.str "BadWeb")]], .lst [.t [.p 1, .p 3, .d (.str "BadPuzzle")], .t [.p 5, .p 7, .d (.str "BadWord")], .t [.p 10, .p 12, .d (.str "BadRecipe")], .t [.p 16, .p 18, .d (.str "BadLadder")], .t [.p 22, .p 24, .d (.str "BadPaper")], .t [.p 28, .p 30, .d (.str "BadPieces")], .t [.p 34, .p 36, .d (.str "BadGlue")], .t [.p 38, .p 40, .d (.str "BadWeb")]], .xd [("place", .d x)], .xo (cs 18) "no such text" (.p 43), .xd [("place", .d x)], .xo (cs 18) "no such text" (.p 45)]) (ex_tup (ea_cons (ex_to (s := .p 44) (M2 := [.xd [("place", .d x)], .xo (cs 11) "no such puzzle" (.p 0), .xd [("place", .d x)], .xo (cs 11) "no such puzzle" (.p 2), .xd [("place", .d x)], .xo (cs 20) "no such word" (.p 4), .xd [("place", .d x)], .xo (cs 20) "no such word" (.p 6), .lst [.t [.p 1, .p 3, .d (.str "BadPuzzle")], .t [.p 5, .p 7, .d (.str "BadWord")]], .xd [("place", .d x)], .xo (cs 12) "no such recipe" (.p 9), .xd [("place", .d x)], .xo (cs 12) "no such recipe" (.p 11), .lst [.t [.p 10, .p 12, .d (.str "BadRecipe")]], .lst [.t [.p 1, .p 3, .d (.str "BadPuzzle")], .t [.p 5, .p 7, .d (.str "BadWord")], .t [.p 10, .p 12, .d (.str "BadRecipe")]], .xd [("place", .d x)], .xo (cs 3) "no such ladder" (.p 15), .xd [("place", .d x)], .xo (cs 3) "no such ladder" (.p 17), .lst [.t [.p 16, .p 18, .d (.str "BadLadder")]], .lst [.t [.p 1, .p 3, .d (.str "BadPuzzle")], .t [.p 5, .p 7, .d (.str "BadWord")], .t [.p 10, .p 12, .d (.str "BadRecipe")], .t [.p 16, .p 18, .d (.str "BadLadder")]], .xd [("place", .d x)], .xo (cs 7) "no such paper" (.p 21), .xd [("place", .d x)], .xo (cs 7) "no such paper" (.p 23), .lst [.t [.p 22, .p 24, .d (.str "BadPaper")]], .lst [.t [.p 1, .p 3, .d (.str "BadPuzzle")], .t [.p 5, .p 7, .d (.str "BadWord")], .t [.p 10, .p 12, .d (.str "BadRecipe")], .t [.p 16, .p 18, .d (.str "BadLadder")], .t [.p 22, .p 24, .d (.str "BadPaper")]], .xd [("place", .d x)], .xo (cs 9) "no such pieces" (.p 27), .xd [("place", .d x)], .xo (cs 9) "no such pieces" (.p 29), .lst [.t [.p 28, .p 30, .d (.str "BadPieces")]], .lst [.t [.p 1, .p 3, .d (.str "BadPuzzle")], .t [.p 5, .p 7, .d (.str "BadWord")], .t [.p 10, .p 12, .d (.str "BadRecipe")], .t [.p 16, .p 18, .d (.str "BadLadder")], .t [.p 22, .p 24, .d (.str "BadPaper")], .t [.p 28, .p 30, .d (.str "BadPieces")]], .xd [("place", .d x)], .xo (cs 2) "no such glue" (.p 33), .xd [("place", .d x)], .xo (cs 2) "no such glue" (.p 35), .xd [("place", .d x)], .xo (cs 19) "no such web" (.p 37), .xd [("place", .d x)], .xo (cs 19) "no such web" (.p 39), .lst [.t [.p 34, .p 36, .d (.str "BadGlue")], .t [.p 38, .p 40, .d (.str "BadWeb")]], .lst [.t [.p 1, .p 3, .d (.str "BadPuzzle")], .t [.p 5, .p 7, .d (.str "BadWord")], .t [.p 10, .p 12, .d (.str "BadRecipe")], .t [.p 16, .p 18, .d (.str "BadLadder")], .t [.p 22, .p 24, .d (.str "BadPaper")], .t [.p 28, .p 30, .d (.str "BadPieces")], .t [.p 34, .p 36, .d (.str "BadGlue")], .t [.p 38, .p 40, .d (.str "BadWeb")]], .xd [("place", .d x)], .xo (cs 18) "no such text" (.p 43)]) (ex_mkx w18 (ex_var 0)) rfl rfl) (ea_cons (ex_to (s := .p 46) (M2 := [.xd [("place", .d x)], .xo (cs 11) "no such puzzle" (.p 0), .xd [("place", .d x)], .xo (cs 11) "no such puzzle" (.p 2), .xd [("place", .d x)], .xo (cs 20) "no such word" (.p 4), .xd [("place", .d x)], .xo (cs 20) "no such word" (.p 6), .lst [.t [.p 1, .p 3, .d (.str "BadPuzzle")], .t [.p 5, .p 7, .d (.str "BadWord")]], .xd [("place", .d x)], .xo (cs 12) "no such recipe" (.p 9), .xd [("place", .d x)], .xo (cs 12) "no such recipe" (.p 11), .lst [.t [.p 10, .p 12, .d (.str "BadRecipe")]], .lst [.t [.p 1, .p 3, .d (.str "BadPuzzle")], .t [.p 5, .p 7, .d (.str "BadWord")], .t [.p 10, .p 12, .d (.str "BadRecipe")]], .xd [("place", .d x)], .xo (cs 3) "no such ladder" (.p 15), .xd [("place", .d x)], .xo (cs 3) "no such ladder" (.p 17), .lst [.t [.p 16, .p 18, .d (.str "BadLadder")]], .lst [.t [.p 1, .p 3, .d (.str "BadPuzzle")], .t [.p 5, .p 7, .d (.str "BadWord")], .t [.p 10, .p 12, .d (.str "BadRecipe")], .t [.p 16, .p 18, .d (.str "BadLadder")]], .xd [("place", .d x)], .xo (cs 7) "no such paper" (.p 21), .xd [("place", .d x)], .xo (cs 7) "no such paper" (.p 23), .lst [.t [.p 22, .p 24, .d (.str "BadPaper")]], .lst [.t [.p 1, .p 3, .d (.str "BadPuzzle")], .t [.p 5, .p 7, .d (.str "BadWord")], .t [.p 10, .p 12, .d (.str "BadRecipe")], .t [.p 16, .p 18, .d (.str "BadLadder")], .t [.p 22, .p 24, .d (.str "BadPaper")]], .xd [("place", .d x)], .xo (cs 9) "no such pieces" (.p 27), .xd [("place", .d x)], .xo (cs 9) "no such pieces" (.p 29), .lst [.t [.p 28, .p 30, .d (.str "BadPieces")]], .lst [.t [.p 1, .p 3, .d (.str "BadPuzzle")], .t [.p 5, .p 7, .d (.str "BadWord")], .t [.p 10, .p 12, .d (.str "BadRecipe")], .t [.p 16, .p 18, .d (.str "BadLadder")], .t [.p 22, .p 24, .d (.str "BadPaper")], .t [.p 28, .p 30, .d (.str "BadPieces")]], .xd [("place", .d x)], .xo (cs 2) "no such glue" (.p 33), .xd [("place", .d x)], .xo (cs 2) "no such glue" (.p 35), .xd [("place", .d x)], .xo (cs 19) "no such web" (.p 37), .xd [("place", .d x)], .xo (cs 19) "no such web" (.p 39), .lst [.t [.p 34, .p 36, .d (.str "BadGlue")], .t [.p 38, .p 40, .d (.str "BadWeb")]], .lst [.t [.p 1, .p 3, .d (.str "BadPuzzle")], .t [.p 5, .p 7, .d (.str "BadWord")], .t [.p 10, .p 12, .d (.str "BadRecipe")], .t [.p 16, .p 18, .d (.str "BadLadder")], .t [.p 22, .p 24, .d (.str "BadPaper")], .t [.p 28, .p 30, .d (.str "BadPieces")], .t [.p 34, .p 36, .d (.str "BadGlue")], .t [.p 38, .p 40, .d (.str "BadWeb")]], .xd [("place", .d x)], .xo (cs 18) "no such text" (.p 43), .xd [("place", .d x)], .xo (cs 18) "no such text" (.p 45)]) (ex_mkxK w18 (ex_var 0)) rfl rfl) (ea_cons ex_str ea_nil))) (Nat.le_of_ble_eq_true rfl)) rfl rfl) (ea_cons (ex_to (s := .t [.p 48, .p 50, .d (.str "BadDeed")]) (M2 := [.xd [("place", .d x)], .xo (cs 11) "no such puzzle" (.p 0), .xd [("place", .d x)], .xo (cs 11) "no such puzzle" (.p 2), .xd [("place", .d x)], .xo (cs 20) "no such word" (.p 4), .xd [("place", .d x)], .xo (cs 20) "no such word" (.p 6), .lst [.t [.p 1, .p 3, .d (.str "BadPuzzle")], .t [.p 5, .p 7, .d (.str "BadWord")]], .xd [("place", .d x)], .xo (cs 12) "no such recipe" (.p 9), .xd [("place", .d x)], .xo (cs 12) "no such recipe" (.p 11), .lst [.t [.p 10, .p 12, .d (.str "BadRecipe")]], .lst [.t [.p 1, .p 3, .d (.str "BadPuzzle")], .t [.p 5, .p 7, .d (.str "BadWord")], .t [.p 10, .p 12, .d (.str "BadRecipe")]], .xd [("place", .d x)], .xo (cs 3) "no such ladder" (.p 15), .xd [("place", .d x)], .xo (cs 3) "no such ladder" (.p 17), .lst [.t [.p 16, .p 18, .d (.str "BadLadder")]], .lst [.t [.p 1, .p 3, .d (.str "BadPuzzle")], .t [.p 5, .p 7, .d (.str "BadWord")], .t [.p 10, .p 12, .d (.str "BadRecipe")], .t [.p 16, .p 18, .d (.str "BadLadder")]], .xd [("place", .d x)], .xo (cs 7) "no such paper" (.p 21), .xd [("place", .d x)], .xo (cs 7) "no such paper" (.p 23), .lst [.t [.p 22, .p 24, .d (.str "BadPaper")]], .lst [.t [.p 1, .p 3, .d (.str "BadPuzzle")], .t [.p 5, .p 7, .d (.str "BadWord")], .t [.p 10, .p 12, .d (.str "BadRecipe")], .t [.p 16, .p 18, .d (.str "BadLadder")], .t [.p 22, .p 24, .d (.str "BadPaper")]], .xd [("place", .d x)], .xo (cs 9) "no such pieces" (.p 27), .xd [("place", .d x)], .xo (cs 9) "no such pieces" (.p 29), .lst [.t [.p 28, .p 30, .d (.str "BadPieces")]], .lst [.t [.p 1, .p 3, .d (.str "BadPuzzle")], .t [.p 5, .p 7, .d (.str "BadWord")], .t [.p 10, .p 12, .d (.str "BadRecipe")], .t [.p 16, .p 18, .d (.str "BadLadder")], .t [.p 22, .p 24, .d (.str "BadPaper")], .t [.p 28, .p 30, .d (.str "BadPieces")]], .xd [("place", .d x)], .xo (cs 2) "no such glue" (.p 33), .xd [("place", .d x)], .xo (cs 2) "no such glue" (.p 35), .xd [("place", .d x)], .xo (cs 19) "no such web" (.p 37), .xd [("place", .d x)], .xo (cs 19) "no such web" (.p 39), .lst [.t [.p 34, .p 36, .d (.str "BadGlue")], .t [.p 38, .p 40, .d (.str "BadWeb")]], .lst [.t [.p 1, .p 3, .d (.str "BadPuzzle")], .t [.p 5, .p 7, .d (.str "BadWord")], .t [.p 10, .p 12, .d (.str "BadRecipe")], .t [.p 16, .p 18, .d (.str "BadLadder")], .t [.p 22, .p 24, .d (.str "BadPaper")], .t [.p 28, .p 30, .d (.str "BadPieces")], .t [.p 34, .p 36, .d (.str "BadGlue")], .t [.p 38, .p 40, .d (.str "BadWeb")]], .xd [("place", .d x)], .xo (cs 18) "no such text" (.p 43), .xd [("place", .d x)], .xo (cs 18) "no such text" (.p 45), .xd [("place", .d x)], .xo (cs 1) "no such deed" (.p 47), .xd [("place", .d x)], .xo (cs 1) "no such deed" (.p 49)]) (ex_tup (ea_cons (ex_to (s := .p 48) (M2 := [.xd [("place", .d x)], .xo (cs 11) "no such puzzle" (.p 0), .xd [("place", .d x)], .xo (cs 11) "no such puzzle" (.p 2), .xd [("place", .d x)], .xo (cs 20) "no such word" (.p 4), .xd [("place", .d x)], .xo (cs 20) "no such word" (.p 6), .lst [.t [.p 1, .p 3, .d (.str "BadPuzzle")], .t [.p 5, .p 7, .d (.str "BadWord")]], .xd [("place", .d x)], .xo (cs 12) "no such recipe" (.p 9), .xd [("place", .d x)], .xo (cs 12) "no such recipe" (.p 11), .lst [.t [.p 10, .p 12, .d (.str "BadRecipe")]], .lst [.t [.p 1, .p 3, .d (.str "BadPuzzle")], .t [.p 5, .p 7, .d (.str "BadWord")], .t [.p 10, .p 12, .d (.str "BadRecipe")]], .xd [("place", .d x)], .xo (cs 3) "no such ladder" (.p 15), .xd [("place", .d x)], .xo (cs 3) "no such ladder" (.p 17), .lst [.t [.p 16, .p 18, .d (.str "BadLadder")]], .lst [.t [.p 1, .p 3, .d (.str "BadPuzzle")], .t [.p 5, .p 7, .d (.str "BadWord")], .t [.p 10, .p 12, .d (.str "BadRecipe")], .t [.p 16, .p 18, .d (.str "BadLadder")]], .xd [("place", .d x)], .xo (cs 7) "no such paper" (.p 21), .xd [("place", .d x)], .xo (cs 7) "no such paper" (.p 23), .lst [.t [.p 22, .p 24, .d (.str "BadPaper")]], .lst [.t [.p 1, .p 3, .d (.str "BadPuzzle")], .t [.p 5, .p 7, .d (.str "BadWord")], .t [.p 10, .p 12, .d (.str "BadRecipe")], .t [.p 16, .p 18, .d (.str "BadLadder")], .t [.p 22, .p 24, .d (.str "BadPaper")]], .xd [("place", .d x)], .xo (cs 9) "no such pieces" (.p 27), .xd [("place", .d x)], .xo (cs 9) "no such pieces" (.p 29), .lst [.t [.p 28, .p 30, .d (.str "BadPieces")]], .lst [.t [.p 1, .p 3, .d (.str "BadPuzzle")], .t [.p 5, .p 7, .d (.str "BadWord")], .t [.p 10, .p 12, .d (.str "BadRecipe")], .t [.p 16, .p 18, .d (.str "BadLadder")], .t [.p 22, .p 24, .d (.str "BadPaper")], .t [.p 28, .p 30, .d (.str "BadPieces")]], .xd [("place", .d x)], .xo (cs 2) "no such glue" (.p 33), .xd [("place", .d x)], .xo (cs 2) "no such glue" (.p 35), .xd [("place", .d x)], .xo (cs 19) "no such web" (.p 37), .xd [("place", .d x)], .xo (cs 19) "no such web" (.p 39), .lst [.t [.p 34, .p 36, .d (.str "BadGlue")], .t [.p 38, .p 40, .d (.str "BadWeb")]], .lst [.t [.p 1, .p 3, .d (.str "BadPuzzle")], .t [.p 5, .p 7, .d (.str "BadWord")], .t [.p 10, .p 12, .d (.str "BadRecipe")], .t [.p 16, .p 18, .d (.str "BadLadder")], .t [.p 22, .p 24, .d (.str "BadPaper")], .t [.p 28, .p 30, .d (.str "BadPieces")], .t [.p 34, .p 36, .d (.str "BadGlue")], .t [.p 38, .p 40, .d (.str "BadWeb")]], .xd [("place", .d x)], .xo (cs 18) "no such text" (.p 43), .xd [("place", .d x)], .xo (cs 18) "no such text" (.p 45), .xd [("place", .d x)], .xo (cs 1) "no such deed" (.p 47)]) (ex_mkx w1 (ex_var 0)) rfl rfl) (ea_cons (ex_to (s := .p 50) (M2 := [.xd [("place", .d x)], .xo (cs 11) "no such puzzle" (.p 0), .xd [("place", .d x)], .xo (cs 11) "no such puzzle" (.p 2), .xd [("place", .d x)], .xo (cs 20) "no such word" (.p 4), .xd [("place", .d x)], .xo (cs 20) "no such word" (.p 6), .lst [.t [.p 1, .p 3, .d (.str "BadPuzzle")], .t [.p 5, .p 7, .d (.str "BadWord")]], .xd [("place", .d x)], .xo (cs 12) "no such recipe" (.p 9), .xd [("place", .d x)], .xo (cs 12) "no such recipe" (.p 11), .lst [.t [.p 10, .p 12, .d (.str "BadRecipe")]], .lst [.t [.p 1, .p 3, .d (.str "BadPuzzle")], .t [.p 5, .p 7, .d (.str "BadWord")], .t [.p 10, .p 12, .d (.str "BadRecipe")]], .xd [("place", .d x)], .xo (cs 3) "no such ladder" (.p 15), .xd [("place", .d x)], .xo (cs 3) "no such ladder" (.p 17), .lst [.t [.p 16, .p 18, .d (.str "BadLadder")]], .lst [.t [.p 1, .p 3, .d (.str "BadPuzzle")], .t [.p 5, .p 7, .d (.str "BadWord")], .t [.p 10, .p 12, .d (.str "BadRecipe")], .t [.p 16, .p 18, .d (.str "BadLadder")]], .xd [("place", .d x)], .xo (cs 7) "no such paper" (.p 21), .xd [("place", .d x)], .xo (cs 7) "no such paper" (.p 23), .lst [.t [.p 22, .p 24, .d (.str "BadPaper")]], .lst [.t [.p 1, .p 3, .d (.str "BadPuzzle")], .t [.p 5, .p 7, .d (.str "BadWord")], .t [.p 10, .p 12, .d (.str "BadRecipe")], .t [.p 16, .p 18, .d (.str "BadLadder")], .t [.p 22, .p 24, .d (.str "BadPaper")]], .xd [("place", .d x)], .xo (cs 9) "no such pieces" (.p 27), .xd [("place", .d x)], .xo (cs 9) "no such pieces" (.p 29), .lst [.t [.p 28, .p 30, .d (.str "BadPieces")]], .lst [.t [.p 1, .p 3, .d (.str "BadPuzzle")], .t [.p 5, .p 7, .d (.str "BadWord")], .t [.p 10, .p 12, .d (.str "BadRecipe")], .t [.p 16, .p 18, .d (.str "BadLadder")], .t [.p 22, .p 24, .d (.str "BadPaper")], .t [.p 28, .p 30, .d (.str "BadPieces")]], .xd [("place", .d x)], .xo (cs 2) "no such glue" (.p 33), .xd [("place", .d x)], .xo (cs 2) "no such glue" (.p 35), .xd [("place", .d x)], .xo (cs 19) "no such web" (.p 37), .xd [("place", .d x)], .xo (cs 19) "no such web" (.p 39), .lst [.t [.p 34, .p 36, .d (.str "BadGlue")], .t [.p 38, .p 40, .d (.str "BadWeb")]], .lst [.t [.p 1, .p 3, .d (.str "BadPuzzle")], .t [.p 5, .p 7, .d (.str "BadWord")], .t [.p 10, .p 12, .d (.str "BadRecipe")], .t [.p 16, .p 18, .d (.str "BadLadder")], .t [.p 22, .p 24, .d (.str "BadPaper")], .t [.p 28, .p 30, .d (.str "BadPieces")], .t [.p 34, .p 36, .d (.str "BadGlue")], .t [.p 38, .p 40, .d (.str "BadWeb")]], .xd [("place", .d x)], .xo (cs 18) "no such text" (.p 43), .xd [("place", .d x)], .xo (cs 18) "no such text" (.p 45), .xd [("place", .d x)], .xo (cs 1) "no such deed" (.p 47), .xd [("place", .d x)], .xo (cs 1) "no such deed" (.p 49)]) (ex_mkxK w1 (ex_var 0)) rfl rfl) (ea_cons ex_str ea_nil))) (Nat.le_of_ble_eq_true rfl)) rfl rfl) (ea_nil))) (Nat.le_of_ble_eq_true rfl)) rfl rfl) (OS.to (os_cat (xs := [.t [.p 1, .p 3, .d (.str "BadPuzzle")], .t [.p 5, .p 7, .d (.str "BadWord")], .t [.p 10, .p 12, .d (.str "BadRecipe")], .t [.p 16, .p 18, .d (.str "BadLadder")], .t [.p 22, .p 24, .d (.str "BadPaper")], .t [.p 28, .p 30, .d (.str "BadPieces")], .t [.p 34, .p 36, .d (.str "BadGlue")], .t [.p 38, .p 40, .d (.str "BadWeb")]]) (ys := [.t [.p 44, .p 46, .d (.str "BadText")], .t [.p 48, .p 50, .d (.str "BadDeed")]]) rfl rfl (Nat.le_of_ble_eq_true rfl)) (r' := .p 52) (M' := [.xd [("place", .d x)], .xo (cs 11) "no such puzzle" (.p 0), .xd [("place", .d x)], .xo (cs 11) "no such puzzle" (.p 2), .xd [("place", .d x)], .xo (cs 20) "no such word" (.p 4), .xd [("place", .d x)], .xo (cs 20) "no such word" (.p 6), .lst [.t [.p 1, .p 3, .d (.str "BadPuzzle")], .t [.p 5, .p 7, .d (.str "BadWord")]], .xd [("place", .d x)], .xo (cs 12) "no such recipe" (.p 9), .xd [("place", .d x)], .xo (cs 12) "no such recipe" (.p 11), .lst [.t [.p 10, .p 12, .d (.str "BadRecipe")]], .lst [.t [.p 1, .p 3, .d (.str "BadPuzzle")], .t [.p 5, .p 7, .d (.str "BadWord")], .t [.p 10, .p 12, .d (.str "BadRecipe")]], .xd [("place", .d x)], .xo (cs 3) "no such ladder" (.p 15), .xd [("place", .d x)], .xo (cs 3) "no such ladder" (.p 17), .lst [.t [.p 16, .p 18, .d (.str "BadLadder")]], .lst [.t [.p 1, .p 3, .d (.str "BadPuzzle")], .t [.p 5, .p 7, .d (.str "BadWord")], .t [.p 10, .p 12, .d (.str "BadRecipe")], .t [.p 16, .p 18, .d (.str "BadLadder")]], .xd [("place", .d x)], .xo (cs 7) "no such paper" (.p 21), .xd [("place", .d x)], .xo (cs 7) "no such paper" (.p 23), .lst [.t [.p 22, .p 24, .d (.str "BadPaper")]], .lst [.t [.p 1, .p 3, .d (.str "BadPuzzle")], .t [.p 5, .p 7, .d (.str "BadWord")], .t [.p 10, .p 12, .d (.str "BadRecipe")], .t [.p 16, .p 18, .d (.str "BadLadder")], .t [.p 22, .p 24, .d (.str "BadPaper")]], .xd [("place", .d x)], .xo (cs 9) "no such pieces" (.p 27), .xd [("place", .d x)], .xo (cs 9) "no such pieces" (.p 29), .lst [.t [.p 28, .p 30, .d (.str "BadPieces")]], .lst [.t [.p 1, .p 3, .d (.str "BadPuzzle")], .t [.p 5, .p 7, .d (.str "BadWord")], .t [.p 10, .p 12, .d (.str "BadRecipe")], .t [.p 16, .p 18, .d (.str "BadLadder")], .t [.p 22, .p 24, .d (.str "BadPaper")], .t [.p 28, .p 30, .d (.str "BadPieces")]], .xd [("place", .d x)], .xo (cs 2) "no such glue" (.p 33), .xd [("place", .d x)], .xo (cs 2) "no such glue" (.p 35), .xd [("place", .d x)], .xo (cs 19) "no such web" (.p 37), .xd [("place", .d x)], .xo (cs 19) "no such web" (.p 39), .lst [.t [.p 34, .p 36, .d (.str "BadGlue")], .t [.p 38, .p 40, .d (.str "BadWeb")]], .lst [.t [.p 1, .p 3, .d (.str "BadPuzzle")], .t [.p 5, .p 7, .d (.str "BadWord")], .t [.p 10, .p 12, .d (.str "BadRecipe")], .t [.p 16, .p 18, .d (.str "BadLadder")], .t [.p 22, .p 24, .d (.str "BadPaper")], .t [.p 28, .p 30, .d (.str "BadPieces")], .t [.p 34, .p 36, .d (.str "BadGlue")], .t [.p 38, .p 40, .d (.str "BadWeb")]], .xd [("place", .d x)], .xo (cs 18) "no such text" (.p 43), .xd [("place", .d x)], .xo (cs 18) "no such text" (.p 45), .xd [("place", .d x)], .xo (cs 1) "no such deed" (.p 47), .xd [("place", .d x)], .xo (cs 1) "no such deed" (.p 49), .lst [.t [.p 44, .p 46, .d (.str "BadText")], .t [.p 48, .p 50, .d (.str "BadDeed")]], .lst [.t [.p 1, .p 3, .d (.str "BadPuzzle")], .t [.p 5, .p 7, .d (.str "BadWord")], .t [.p 10, .p 12, .d (.str "BadRecipe")], .t [.p 16, .p 18, .d (.str "BadLadder")], .t [.p 22, .p 24, .d (.str "BadPaper")], .t [.p 28, .p 30, .d (.str "BadPieces")], .t [.p 34, .p 36, .d (.str "BadGlue")], .t [.p 38, .p 40, .d (.str "BadWeb")], .t [.p 44, .p 46, .d (.str "BadText")], .t [.p 48, .p 50, .d (.str "BadDeed")]]]) rfl rfl)
              · refine bx_cons ?_
                apply sx_set 1
                · exact ex_bin (ex_var 1) (ex_to (s := .p 57) (M2 := [.xd [("place", .d x)], .xo (cs 11) "no such puzzle" (.p 0), .xd [("place", .d x)], .xo (cs 11) "no such puzzle" (.p 2), .xd [("place", .d x)], .xo (cs 20) "no such word" (.p 4), .xd [("place", .d x)], .xo (cs 20) "no such word" (.p 6), .lst [.t [.p 1, .p 3, .d (.str "BadPuzzle")], .t [.p 5, .p 7, .d (.str "BadWord")]], .xd [("place", .d x)], .xo (cs 12) "no such recipe" (.p 9), .xd [("place", .d x)], .xo (cs 12) "no such recipe" (.p 11), .lst [.t [.p 10, .p 12, .d (.str "BadRecipe")]], .lst [.t [.p 1, .p 3, .d (.str "BadPuzzle")], .t [.p 5, .p 7, .d (.str "BadWord")], .t [.p 10, .p 12, .d (.str "BadRecipe")]], .xd [("place", .d x)], .xo (cs 3) "no such ladder" (.p 15), .xd [("place", .d x)], .xo (cs 3) "no such ladder" (.p 17), .lst [.t [.p 16, .p 18, .d (.str "BadLadder")]], .lst [.t [.p 1, .p 3, .d (.str "BadPuzzle")], .t [.p 5, .p 7, .d (.str "BadWord")], .t [.p 10, .p 12, .d (.str "BadRecipe")], .t [.p 16, .p 18, .d (.str "BadLadder")]], .xd [("place", .d x)], .xo (cs 7) "no such paper" (.p 21), .xd [("place", .d x)], .xo (cs 7) "no such paper" (.p 23), .lst [.t [.p 22, .p 24, .d (.str "BadPaper")]], .lst [.t [.p 1, .p 3, .d (.str "BadPuzzle")], .t [.p 5, .p 7, .d (.str "BadWord")], .t [.p 10, .p 12, .d (.str "BadRecipe")], .t [.p 16, .p 18, .d (.str "BadLadder")], .t [.p 22, .p 24, .d (.str "BadPaper")]], .xd [("place", .d x)], .xo (cs 9) "no such pieces" (.p 27), .xd [("place", .d x)], .xo (cs 9) "no such pieces" (.p 29), .lst [.t [.p 28, .p 30, .d (.str "BadPieces")]], .lst [.t [.p 1, .p 3, .d (.str "BadPuzzle")], .t [.p 5, .p 7, .d (.str "BadWord")], .t [.p 10, .p 12, .d (.str "BadRecipe")], .t [.p 16, .p 18, .d (.str "BadLadder")], .t [.p 22, .p 24, .d (.str "BadPaper")], .t [.p 28, .p 30, .d (.str "BadPieces")]], .xd [("place", .d x)], .xo (cs 2) "no such glue" (.p 33), .xd [("place", .d x)], .xo (cs 2) "no such glue" (.p 35), .xd [("place", .d x)], .xo (cs 19) "no such web" (.p 37), .xd [("place", .d x)], .xo (cs 19) "no such web" (.p 39), .lst [.t [.p 34, .p 36, .d (.str "BadGlue")], .t [.p 38, .p 40, .d (.str "BadWeb")]], .lst [.t [.p 1, .p 3, .d (.str "BadPuzzle")], .t [.p 5, .p 7, .d (.str "BadWord")], .t [.p 10, .p 12, .d (.str "BadRecipe")], .t [.p 16, .p 18, .d (.str "BadLadder")], .t [.p 22, .p 24, .d (.str "BadPaper")], .t [.p 28, .p 30, .d (.str "BadPieces")], .t [.p 34, .p 36, .d (.str "BadGlue")], .t [.p 38, .p 40, .d (.str "BadWeb")]], .xd [("place", .d x)], .xo (cs 18) "no such text" (.p 43), .xd [("place", .d x)], .xo (cs 18) "no such text" (.p 45), .xd [("place", .d x)], .xo (cs 1) "no such deed" (.p 47), .xd [("place", .d x)], .xo (cs 1) "no such deed" (.p 49), .lst [.t [.p 44, .p 46, .d (.str "BadText")], .t [.p 48, .p 50, .d (.str "BadDeed")]], .lst [.t [.p 1, .p 3, .d (.str "BadPuzzle")], .t [.p 5, .p 7, .d (.str "BadWord")], .t [.p 10, .p 12, .d (.str "BadRecipe")], .t [.p 16, .p 18, .d (.str "BadLadder")], .t [.p 22, .p 24, .d (.str "BadPaper")], .t [.p 28, .p 30, .d (.str "BadPieces")], .t [.p 34, .p 36, .d (.str "BadGlue")], .t [.p 38, .p 40, .d (.str "BadWeb")], .t [.p 44, .p 46, .d (.str "BadText")], .t [.p 48, .p 50, .d (.str "BadDeed")]], .xd [("place", .d x)], .xo (cs 15) "no such stages" (.p 53), .xd [("place", .d x)], .xo (cs 15) "no such stages" (.p 55), .lst [.t [.p 54, .p 56, .d (.str "BadStages")]]]) (ex_list (ea_cons (ex_to (s := .t [.p 54, .p 56, .d (.str "BadStages")]) (M2 := [.xd [("place", .d x)], .xo (cs 11) "no such puzzle" (.p 0), .xd [("place", .d x)], .xo (cs 11) "no such puzzle" (.p 2), .xd [("place", .d x)], .xo (cs 20) "no such word" (.p 4), .xd [("place", .d x)], .xo (cs 20) "no such word" (.p 6), .lst [.t [.p 1, .p 3, .d (.str "BadPuzzle")], .t [.p 5, .p 7, .d (.str "BadWord")]], .xd [("place", .d x)], .xo (cs 12) "no such recipe" (.p 9), .xd [("place", .d x)], .xo (cs 12) "no such recipe" (.p 11), .lst [.t [.p 10, .p 12, .d (.str "BadRecipe")]], .lst [.t [.p 1, .p 3, .d (.str "BadPuzzle")], .t [.p 5, .p 7, .d (.str "BadWord")], .t [.p 10, .p 12, .d (.str "BadRecipe")]], .xd [("place", .d x)], .xo (cs 3) "no such ladder" (.p 15), .xd [("place", .d x)], .xo (cs 3) "no such ladder" (.p 17), .lst [.t [.p 16, .p 18, .d (.str "BadLadder")]], .lst [.t [.p 1, .p 3, .d (.str "BadPuzzle")], .t [.p 5, .p 7, .d (.str "BadWord")], .t [.p 10, .p 12, .d (.str "BadRecipe")], .t [.p 16, .p 18, .d (.str "BadLadder")]], .xd [("place", .d x)], .xo (cs 7) "no such paper" (.p 21), .xd [("place", .d x)], .xo (cs 7) "no such paper" (.p 23), .lst [.t [.p 22, .p 24, .d (.str "BadPaper")]], .lst [.t [.p 1, .p 3, .d (.str "BadPuzzle")], .t [.p 5, .p 7, .d (.str "BadWord")], .t [.p 10, .p 12, .d (.str "BadRecipe")], .t [.p 16, .p 18, .d (.str "BadLadder")], .t [.p 22, .p 24, .d (.str "BadPaper")]], .xd [("place", .d x)], .xo (cs 9) "no such pieces" (.p 27), .xd [("place", .d x)], .xo (cs 9) "no such pieces" (.p 29), .lst [.t [.p 28, .p 30, .d (.str "BadPieces")]], .lst [.t [.p 1, .p 3, .d (.str "BadPuzzle")], .t [.p 5, .p 7, .d (.str "BadWord")], .t [.p 10, .p 12, .d (.str "BadRecipe")], .t [.p 16, .p 18, .d (.str "BadLadder")], .t [.p 22, .p 24, .d (.str "BadPaper")], .t [.p 28, .p 30, .d (.str "BadPieces")]], .xd [("place", .d x)], .xo (cs 2) "no such glue" (.p 33), .xd [("place", .d x)], .xo (cs 2) "no such glue" (.p 35), .xd [("place", .d x)], .xo (cs 19) "no such web" (.p 37), .xd [("place", .d x)], .xo (cs 19) "no such web" (.p 39), .lst [.t [.p 34, .p 36, .d (.str "BadGlue")], .t [.p 38, .p 40, .d (.str "BadWeb")]], .lst [.t [.p 1, .p 3, .d (.str "BadPuzzle")], .t [.p 5, .p 7, .d (.str "BadWord")], .t [.p 10, .p 12, .d (.str "BadRecipe")], .t [.p 16, .p 18, .d (.str "BadLadder")], .t [.p 22, .p 24, .d (.str "BadPaper")], .t [.p 28, .p 30, .d (.str "BadPieces")], .t [.p 34, .p 36, .d (.str "BadGlue")], .t [.p 38, .p 40, .d (.str "BadWeb")]], .xd [("place", .d x)], .xo (cs 18) "no such text" (.p 43), .xd [("place", .d x)], .xo (cs 18) "no such text" (.p 45), .xd [("place", .d x)], .xo (cs 1) "no such deed" (.p 47), .xd [("place", .d x)], .xo (cs 1) "no such deed" (.p 49), .lst [.t [.p 44, .p 46, .d (.str "BadText")], .t [.p 48, .p 50, .d (.str "BadDeed")]], .lst [.t [.p 1, .p 3, .d (.str "BadPuzzle")], .t [.p 5, .p 7, .d (.str "BadWord")], .t [.p 10, .p 12, .d (.str "BadRecipe")], .t [.p 16, .p 18, .d (.str "BadLadder")], .t [.p 22, .p 24, .d (.str "BadPaper")], .t [.p 28, .p 30, .d (.str "BadPieces")], .t [.p 34, .p 36, .d (.str "BadGlue")], .t [.p 38, .p 40, .d (.str "BadWeb")], .t [.p 44, .p 46, .d (.str "BadText")], .t [.p 48, .p 50, .d (.str "BadDeed")]], .xd [("place", .d x)], .xo (cs 15) "no such stages" (.p 53), .xd [("place", .d x)], .xo (cs 15) "no such stages" (.p 55)]) (ex_tup (ea_cons (ex_to (s := .p 54) (M2 := [.xd [("place", .d x)], .xo (cs 11) "no such puzzle" (.p 0), .xd [("place", .d x)], .xo (cs 11) "no such puzzle" (.p 2), .xd [("place", .d x)], .xo (cs 20) "no such word" (.p 4), .xd [("place", .d x)], .xo (cs 20) "no such word" (.p 6), .lst [.t [.p 1, .p 3, .d (.str "BadPuzzle")], .t [.p 5, .p 7, .d (.str "BadWord")]], .xd [("place", .d x)], .xo (cs 12) "no such recipe" (.p 9), .xd [("place", .d x)], .xo (cs 12) "no such recipe" (.p 11), .lst [.t [.p 10, .p 12, .d (.str "BadRecipe")]], .lst [.t [.p 1, .p 3, .d (.str "BadPuzzle")], .t [.p 5, .p 7, .d (.str "BadWord")], .t [.p 10, .p 12, .d (.str "BadRecipe")]], .xd [("place", .d x)], .xo (cs 3) "no such ladder" (.p 15), .xd [("place", .d x)], .xo (cs 3) "no such ladder" (.p 17), .lst [.t [.p 16, .p 18, .d (.str "BadLadder")]], .lst [.t [.p 1, .p 3, .d (.str "BadPuzzle")], .t [.p 5, .p 7, .d (.str "BadWord")], .t [.p 10, .p 12, .d (.str "BadRecipe")], .t [.p 16, .p 18, .d (.str "BadLadder")]], .xd [("place", .d x)], .xo (cs 7) "no such paper" (.p 21), .xd [("place", .d x)], .xo (cs 7) "no such paper" (.p 23), .lst [.t [.p 22, .p 24, .d (.str "BadPaper")]], .lst [.t [.p 1, .p 3, .d (.str "BadPuzzle")], .t [.p 5, .p 7, .d (.str "BadWord")], .t [.p 10, .p 12, .d (.str "BadRecipe")], .t [.p 16, .p 18, .d (.str "BadLadder")], .t [.p 22, .p 24, .d (.str "BadPaper")]], .xd [("place", .d x)], .xo (cs 9) "no such pieces" (.p 27), .xd [("place", .d x)], .xo (cs 9) "no such pieces" (.p 29), .lst [.t [.p 28, .p 30, .d (.str "BadPieces")]], .lst [.t [.p 1, .p 3, .d (.str "BadPuzzle")], .t [.p 5, .p 7, .d (.str "BadWord")], .t [.p 10, .p 12, .d (.str "BadRecipe")], .t [.p 16, .p 18, .d (.str "BadLadder")], .t [.p 22, .p 24, .d (.str "BadPaper")], .t [.p 28, .p 30, .d (.str "BadPieces")]], .xd [("place", .d x)], .xo (cs 2) "no such glue" (.p 33), .xd [("place", .d x)], .xo (cs 2) "no such glue" (.p 35), .xd [("place", .d x)], .xo (cs 19) "no such web" (.p 37), .xd [("place", .d x)], .xo (cs 19) "no such web" (.p 39), .lst [.t [.p 34, .p 36, .d (.str "BadGlue")], .t [.p 38, .p 40, .d (.str "BadWeb")]], .lst [.t [.p 1, .p 3, .d (.str "BadPuzzle")], .t [.p 5, .p 7, .d (.str "BadWord")], .t [.p 10, .p 12, .d (.str "BadRecipe")], .t [.p 16, .p 18, .d (.str "BadLadder")], .t [.p 22, .p 24, .d (.str "BadPaper")], .t [.p 28, .p 30, .d (.str "BadPieces")], .t [.p 34, .p 36, .d (.str "BadGlue")], .t [.p 38, .p 40, .d (.str "BadWeb")]], .xd [("place", .d x)], .xo (cs 18) "no such text" (.p 43), .xd [("place", .d x)], .xo (cs 18) "no such text" (.p 45), .xd [("place", .d x)], .xo (cs 1) "no such deed" (.p 47), .xd [("place", .d x)], .xo (cs 1) "no such deed" (.p 49), .lst [.t [.p 44, .p 46, .d (.str "BadText")], .t [.p 48, .p 50, .d (.str "BadDeed")]], .lst [.t [.p 1, .p 3, .d (.str "BadPuzzle")], .t [.p 5, .p 7, .d (.str "BadWord")], .t [.p 10, .p 12, .d (.str "BadRecipe")], .t [.p 16, .p 18, .d (.str "BadLadder")], .t [.p 22, .p 24, .d (.str "BadPaper")], .t [.p 28, .p 30, .d (.str "BadPieces")], .t [.p 34, .p 36, .d (.str "BadGlue")], .t [.p 38, .p 40, .d (.str "BadWeb")], .t [.p 44, .p 46, .d (.str "BadText")], .t [.p 48, .p 50, .d (.str "BadDeed")]], .xd [("place", .d x)], .xo (cs 15) "no such stages" (.p 53)]) (ex_mkx w15 (ex_var 0)) rfl rfl) (ea_cons (ex_to (s := .p 56) (M2 := [.xd [("place", .d x)], .xo (cs 11) "no such puzzle" (.p 0), .xd [("place", .d x)], .xo (cs 11) "no such puzzle" (.p 2), .xd [("place", .d x)], .xo (cs 20) "no such word" (.p 4), .xd [("place", .d x)], .xo (cs 20) "no such word" (.p 6), .lst [.t [.p 1, .p 3, .d (.str "BadPuzzle")], .t [.p 5, .p 7, .d (.str "BadWord")]], .xd [("place", .d x)], .xo (cs 12) "no such recipe" (.p 9), .xd [("place", .d x)], .xo (cs 12) "no such recipe" (.p 11), .lst [.t [.p 10, .p 12, .d (.str "BadRecipe")]], .lst [.t [.p 1, .p 3, .d (.str "BadPuzzle")], .t [.p 5, .p 7, .d (.str "BadWord")], .t [.p 10, .p 12, .d (.str "BadRecipe")]], .xd [("place", .d x)], .xo (cs 3) "no such ladder" (.p 15), .xd [("place", .d x)], .xo (cs 3) "no such ladder" (.p 17), .lst [.t [.p 16, .p 18, .d (.str "BadLadder")]], .lst [.t [.p 1, .p 3, .d (.str "BadPuzzle")], .t [.p 5, .p 7, .d (.str "BadWord")], .t [.p 10, .p 12, .d (.str "BadRecipe")], .t [.p 16, .p 18, .d (.str "BadLadder")]], .xd [("place", .d x)], .xo (cs 7) "no such paper" (.p 21), .xd [("place", .d x)], .xo (cs 7) "no such paper" (.p 23), .lst [.t [.p 22, .p 24, .d (.str "BadPaper")]], .lst [.t [.p 1, .p 3, .d (.str "BadPuzzle")], .t [.p 5, .p 7, .d (.str "BadWord")], .t [.p 10, .p 12, .d (.str "BadRecipe")], .t [.p 16, .p 18, .d (.str "BadLadder")], .t [.p 22, .p 24, .d (.str "BadPaper")]], .xd [("place", .d x)], .xo (cs 9) "no such pieces" (.p 27), .xd [("place", .d x)], .xo (cs 9) "no such pieces" (.p 29), .lst [.t [.p 28, .p 30, .d (.str "BadPieces")]], .lst [.t [.p 1, .p 3, .d (.str "BadPuzzle")], .t [.p 5, .p 7, .d (.str "BadWord")], .t [.p 10, .p 12, .d (.str "BadRecipe")], .t [.p 16, .p 18, .d (.str "BadLadder")], .t [.p 22, .p 24, .d (.str "BadPaper")], .t [.p 28, .p 30, .d (.str "BadPieces")]], .xd [("place", .d x)], .xo (cs 2) "no such glue" (.p 33), .xd [("place", .d x)], .xo (cs 2) "no such glue" (.p 35), .xd [("place", .d x)], .xo (cs 19) "no such web" (.p 37), .xd [("place", .d x)], .xo (cs 19) "no such web" (.p 39), .lst [.t [.p 34, .p 36, .d (.str "BadGlue")], .t [.p 38, .p 40, .d (.str "BadWeb")]], .lst [.t [.p 1, .p 3, .d (.str "BadPuzzle")], .t [.p 5, .p 7, .d (.str "BadWord")], .t [.p 10, .p 12, .d (.str "BadRecipe")], .t [.p 16, .p 18, .d (.str "BadLadder")], .t [.p 22, .p 24, .d (.str "BadPaper")], .t [.p 28, .p 30, .d (.str "BadPieces")], .t [.p 34, .p 36, .d (.str "BadGlue")], .t [.p 38, .p 40, .d (.str "BadWeb")]], .xd [("place", .d x)], .xo (cs 18) "no such text" (.p 43), .xd [("place", .d x)], .xo (cs 18) "no such text" (.p 45), .xd [("place", .d x)], .xo (cs 1) "no such deed" (.p 47), .xd [("place", .d x)], .xo (cs 1) "no such deed" (.p 49), .lst [.t [.p 44, .p 46, .d (.str "BadText")], .t [.p 48, .p 50, .d (.str "BadDeed")]], .lst [.t [.p 1, .p 3, .d (.str "BadPuzzle")], .t [.p 5, .p 7, .d (.str "BadWord")], .t [.p 10, .p 12, .d (.str "BadRecipe")], .t [.p 16, .p 18, .d (.str "BadLadder")], .t [.p 22, .p 24, .d (.str "BadPaper")], .t [.p 28, .p 30, .d (.str "BadPieces")], .t [.p 34, .p 36, .d (.str "BadGlue")], .t [.p 38, .p 40, .d (.str "BadWeb")], .t [.p 44, .p 46, .d (.str "BadText")], .t [.p 48, .p 50, .d (.str "BadDeed")]], .xd [("place", .d x)], .xo (cs 15) "no such stages" (.p 53), .xd [("place", .d x)], .xo (cs 15) "no such stages" (.p 55)]) (ex_mkxK w15 (ex_var 0)) rfl rfl) (ea_cons ex_str ea_nil))) (Nat.le_of_ble_eq_true rfl)) rfl rfl) (ea_nil)) (Nat.le_of_ble_eq_true rfl)) rfl rfl) (OS.to (os_cat (xs := [.t [.p 1, .p 3, .d (.str "BadPuzzle")], .t [.p 5, .p 7, .d (.str "BadWord")], .t [.p 10, .p 12, .d (.str "BadRecipe")], .t [.p 16, .p 18, .d (.str "BadLadder")], .t [.p 22, .p 24, .d (.str "BadPaper")], .t [.p 28, .p 30, .d (.str "BadPieces")], .t [.p 34, .p 36, .d (.str "BadGlue")], .t [.p 38, .p 40, .d (.str "BadWeb")], .t [.p 44, .p 46, .d (.str "BadText")], .t [.p 48, .p 50, .d (.str "BadDeed")]]) (ys := [.t [.p 54, .p 56, .d (.str "BadStages")]]) rfl rfl (Nat.le_of_ble_eq_true rfl)) (r' := .p 58) (M' := [.xd [("place", .d x)], .xo (cs 11) "no such puzzle" (.p 0), .xd [("place", .d x)], .xo (cs 11) "no such puzzle" (.p 2), .xd [("place", .d x)], .xo (cs 20) "no such word" (.p 4), .xd [("place", .d x)], .xo (cs 20) "no such word" (.p 6), .lst [.t [.p 1, .p 3, .d (.str "BadPuzzle")], .t [.p 5, .p 7, .d (.str "BadWord")]], .xd [("place", .d x)], .xo (cs 12) "no such recipe" (.p 9), .xd [("place", .d x)], .xo (cs 12) "no such recipe" (.p 11), .lst [.t [.p 10, .p 12, .d (.str "BadRecipe")]], .lst [.t [.p 1, .p 3, .d (.str "BadPuzzle")], .t [.p 5, .p 7, .d (.str "BadWord")], .t [.p 10, .p 12, .d (.str "BadRecipe")]], .xd [("place", .d x)], .xo (cs 3) "no such ladder" (.p 15), .xd [("place", .d x)], .xo (cs 3) "no such ladder" (.p 17), .lst [.t [.p 16, .p 18, .d (.str "BadLadder")]], .lst [.t [.p 1, .p 3, .d (.str "BadPuzzle")], .t [.p 5, .p 7, .d (.str "BadWord")], .t [.p 10, .p 12, .d (.str "BadRecipe")], .t [.p 16, .p 18, .d (.str "BadLadder")]], .xd [("place", .d x)], .xo (cs 7) "no such paper" (.p 21), .xd [("place", .d x)], .xo (cs 7) "no such paper" (.p 23), .lst [.t [.p 22, .p 24, .d (.str "BadPaper")]], .lst [.t [.p 1, .p 3, .d (.str "BadPuzzle")], .t [.p 5, .p 7, .d (.str "BadWord")], .t [.p 10, .p 12, .d (.str "BadRecipe")], .t [.p 16, .p 18, .d (.str "BadLadder")], .t [.p 22, .p 24, .d (.str "BadPaper")]], .xd [("place", .d x)], .xo (cs 9) "no such pieces" (.p 27), .xd [("place", .d x)], .xo (cs 9) "no such pieces" (.p 29), .lst [.t [.p 28, .p 30, .d (.str "BadPieces")]], .lst [.t [.p 1, .p 3, .d (.str "BadPuzzle")], .t [.p 5, .p 7, .d (.str "BadWord")], .t [.p 10, .p 12, .d (.str "BadRecipe")], .t [.p 16, .p 18, .d (.str "BadLadder")], .t [.p 22, .p 24, .d (.str "BadPaper")], .t [.p 28, .p 30, .d (.str "BadPieces")]], .xd [("place", .d x)], .xo (cs 2) "no such glue" (.p 33), .xd [("place", .d x)], .xo (cs 2) "no such glue" (.p 35), .xd [("place", .d x)], .xo (cs 19) "no such web" (.p 37), .xd [("place", .d x)], .xo (cs 19) "no such web" (.p 39), .lst [.t [.p 34, .p 36, .d (.str "BadGlue")], .t [.p 38, .p 40, .d (.str "BadWeb")]], .lst [.t [.p 1, .p 3, .d (.str "BadPuzzle")], .t [.p 5, .p 7, .d (.str "BadWord")], .t [.p 10, .p 12, .d (.str "BadRecipe")], .t [.p 16, .p 18, .d (.str "BadLadder")], .t [.p 22, .p 24, .d (.str "BadPaper")], .t [.p 28, .p 30, .d (.str "BadPieces")], .t [.p 34, .p 36, .d (.str "BadGlue")], .t [.p 38, .p 40, .d (.str "BadWeb")]], .xd [("place", .d x)], .xo (cs 18) "no such text" (.p 43), .xd [("place", .d x)], .xo (cs 18) "no such text" (.p 45), .xd [("place", .d x)], .xo (cs 1) "no such deed" (.p 47), .xd [("place", .d x)], .xo (cs 1) "no such deed" (.p 49), .lst [.t [.p 44, .p 46, .d (.str "BadText")], .t [.p 48, .p 50, .d (.str "BadDeed")]], .lst [.t [.p 1, .p 3, .d (.str "BadPuzzle")], .t [.p 5, .p 7, .d (.str "BadWord")], .t [.p 10, .p 12, .d (.str "BadRecipe")], .t [.p 16, .p 18, .d (.str "BadLadder")], .t [.p 22, .p 24, .d (.str "BadPaper")], .t [.p 28, .p 30, .d (.str "BadPieces")], .t [.p 34, .p 36, .d (.str "BadGlue")], .t [.p 38, .p 40, .d (.str "BadWeb")], .t [.p 44, .p 46, .d (.str "BadText")], .t [.p 48, .p 50, .d (.str "BadDeed")]], .xd [("place", .d x)], .xo (cs 15) "no such stages" (.p 53), .xd [("place", .d x)], .xo (cs 15) "no such stages" (.p 55), .lst [.t [.p 54, .p 56, .d (.str "BadStages")]], .lst [.t [.p 1, .p 3, .d (.str "BadPuzzle")], .t [.p 5, .p 7, .d (.str "BadWord")], .t [.p 10, .p 12, .d (.str "BadRecipe")], .t [.p 16, .p 18, .d (.str "BadLadder")], .t [.p 22, .p 24, .d (.str "BadPaper")], .t [.p 28, .p 30, .d (.str "BadPieces")], .t [.p 34, .p 36, .d (.str "BadGlue")], .t [.p 38, .p 40, .d (.str "BadWeb")], .t [.p 44, .p 46, .d (.str "BadText")], .t [.p 48, .p 50, .d (.str "BadDeed")], .t [.p 54, .p 56, .d (.str "BadStages")]]]) rfl rfl)
                · refine bx_cons ?_
                  apply sx_set 1
                  · exact ex_bin (ex_var 1) (ex_to (s := .p 63) (M2 := [.xd [("place", .d x)], .xo (cs 11) "no such puzzle" (.p 0), .xd [("place", .d x)], .xo (cs 11) "no such puzzle" (.p 2), .xd [("place", .d x)], .xo (cs 20) "no such word" (.p 4), .xd [("place", .d x)], .xo (cs 20) "no such word" (.p 6), .lst [.t [.p 1, .p 3, .d (.str "BadPuzzle")], .t [.p 5, .p 7, .d (.str "BadWord")]], .xd [("place", .d x)], .xo (cs 12) "no such recipe" (.p 9), .xd [("place", .d x)], .xo (cs 12) "no such recipe" (.p 11), .lst [.t [.p 10, .p 12, .d (.str "BadRecipe")]], .lst [.t [.p 1, .p 3, .d (.str "BadPuzzle")], .t [.p 5, .p 7, .d (.str "BadWord")], .t [.p 10, .p 12, .d (.str "BadRecipe")]], .xd [("place", .d x)], .xo (cs 3) "no such ladder" (.p 15), .xd [("place", .d x)], .xo (cs 3) "no such ladder" (.p 17), .lst [.t [.p 16, .p 18, .d (.str "BadLadder")]], .lst [.t [.p 1, .p 3, .d (.str "BadPuzzle")], .t [.p 5, .p 7, .d (.str "BadWord")], .t [.p 10, .p 12, .d (.str "BadRecipe")], .t [.p 16, .p 18, .d (.str "BadLadder")]], .xd [("place", .d x)], .xo (cs 7) "no such paper" (.p 21), .xd [("place", .d x)], .xo (cs 7) "no such paper" (.p 23), .lst [.t [.p 22, .p 24, .d (.str "BadPaper")]], .lst [.t [.p 1, .p 3, .d (.str "BadPuzzle")], .t [.p 5, .p 7, .d (.str "BadWord")], .t [.p 10, .p 12, .d (.str "BadRecipe")], .t [.p 16, .p 18, .d (.str "BadLadder")], .t [.p 22, .p 24, .d (.str "BadPaper")]], .xd [("place", .d x)], .xo (cs 9) "no such pieces" (.p 27), .xd [("place", .d x)], .xo (cs 9) "no such pieces" (.p 29), .lst [.t [.p 28, .p 30, .d (.str "BadPieces")]], .lst [.t [.p 1, .p 3, .d (.str "BadPuzzle")], .t [.p 5, .p 7, .d (.str "BadWord")], .t [.p 10, .p 12, .d (.str "BadRecipe")], .t [.p 16, .p 18, .d (.str "BadLadder")], .t [.p 22, .p 24, .d (.str "BadPaper")], .t [.p 28, .p 30, .d (.str "BadPieces")]], .xd [("place", .d x)], .xo (cs 2) "no such glue" (.p 33), .xd [("place", .d x)], .xo (cs 2) "no such glue" (.p 35), .xd [("place", .d x)], .xo (cs 19) "no such web" (.p 37), .xd [("place", .d x)], .xo (cs 19) "no such web" (.p 39), .lst [.t [.p 34, .p 36, .d (.str "BadGlue")], .t [.p 38, .p 40, .d (.str "BadWeb")]], .lst [.t [.p 1, .p 3, .d (.str "BadPuzzle")], .t [.p 5, .p 7, .d (.str "BadWord")], .t [.p 10, .p 12, .d (.str "BadRecipe")], .t [.p 16, .p 18, .d (.str "BadLadder")], .t [.p 22, .p 24, .d (.str "BadPaper")], .t [.p 28, .p 30, .d (.str "BadPieces")], .t [.p 34, .p 36, .d (.str "BadGlue")], .t [.p 38, .p 40, .d (.str "BadWeb")]], .xd [("place", .d x)], .xo (cs 18) "no such text" (.p 43), .xd [("place", .d x)], .xo (cs 18) "no such text" (.p 45), .xd [("place", .d x)], .xo (cs 1) "no such deed" (.p 47), .xd [("place", .d x)], .xo (cs 1) "no such deed" (.p 49), .lst [.t [.p 44, .p 46, .d (.str "BadText")], .t [.p 48, .p 50, .d (.str "BadDeed")]], .lst [.t [.p 1, .p 3, .d (.str "BadPuzzle")], .t [.p 5, .p 7, .d (.str "BadWord")], .t [.p 10, .p 12, .d (.str "BadRecipe")], .t [.p 16, .p 18, .d (.str "BadLadder")], .t [.p 22, .p 24, .d (.str "BadPaper")], .t [.p 28, .p 30, .d (.str "BadPieces")], .t [.p 34, .p 36, .d (.str "BadGlue")], .t [.p 38, .p 40, .d (.str "BadWeb")], .t [.p 44, .p 46, .d (.str "BadText")], .t [.p 48, .p 50, .d (.str "BadDeed")]], .xd [("place", .d x)], .xo (cs 15) "no such stages" (.p 53), .xd [("place", .d x)], .xo (cs 15) "no such stages" (.p 55), .lst [.t [.p 54, .p 56, .d (.str "BadStages")]], .lst [.t [.p 1, .p 3, .d (.str "BadPuzzle")], .t [.p 5, .p 7, .d (.str "BadWord")], .t [.p 10, .p 12, .d (.str "BadRecipe")], .t [.p 16, .p 18, .d (.str "BadLadder")], .t [.p 22, .p 24, .d (.str "BadPaper")], .t [.p 28, .p 30, .d (.str "BadPieces")], .t [.p 34, .p 36, .d (.str "BadGlue")], .t [.p 38, .p 40, .d (.str "BadWeb")], .t [.p 44, .p 46, .d (.str "BadText")], .t [.p 48, .p 50, .d (.str "BadDeed")], .t [.p 54, .p 56, .d (.str "BadStages")]], .xd [("place", .d x)], .xo (cs 4) "no such macros" (.p 59), .xd [("place", .d x)], .xo (cs 4) "no such macros" (.p 61), .lst [.t [.p 60, .p 62, .d (.str "BadMacros")]]]) (ex_list (ea_cons (ex_to (s := .t [.p 60, .p 62, .d (.str "BadMacros")]) (M2 := [.xd [("place", .d x)], .xo (cs 11) "no such puzzle" (.p 0), .xd [("place", .d x)], .xo (cs 11) "no such puzzle" (.p 2), .xd [("place", .d x)], .xo (cs 20) "no such word" (.p 4), .xd [("place", .d x)], .xo (cs 20) "no such word" (.p 6), .lst [.t [.p 1, .p 3, .d (.str "BadPuzzle")], .t [.p 5, .p 7, .d (.str "BadWord")]], .xd [("place", .d x)], .xo (cs 12) "no such recipe" (.p 9), .xd [("place", .d x)], .xo (cs 12) "no such recipe" (.p 11), .lst [.t [.p 10, .p 12, .d (.str "BadRecipe")]], .lst [.t [.p 1, .p 3, .d (.str "BadPuzzle")], .t [.p 5, .p 7, .d (.str "BadWord")], .t [.p 10, .p 12, .d (.str "BadRecipe")]], .xd [("place", .d x)], .xo (cs 3) "no such ladder" (.p 15), .xd [("place", .d x)], .xo (cs 3) "no such ladder" (.p 17), .lst [.t [.p 16, .p 18, .d (.str "BadLadder")]], .lst [.t [.p 1, .p 3, .d (.str "BadPuzzle")], .t [.p 5, .p 7, .d (.str "BadWord")], .t [.p 10, .p 12, .d (.str "BadRecipe")], .t [.p 16, .p 18, .d (.str "BadLadder")]], .xd [("place", .d x)], .xo (cs 7) "no such paper" (.p 21), .xd [("place", .d x)], .xo (cs 7) "no such paper" (.p 23), .lst [.t [.p 22, .p 24, .d (.str "BadPaper")]], .lst [.t [.p 1, .p 3, .d (.str "BadPuzzle")], .t [.p 5, .p 7, .d (.str "BadWord")], .t [.p 10, .p 12, .d (.str "BadRecipe")], .t [.p 16, .p 18, .d (.str "BadLadder")], .t [.p 22, .p 24, .d (.str "BadPaper")]], .xd [("place", .d x)], .xo (cs 9) "no such pieces" (.p 27), .xd [("place", .d x)], .xo (cs 9) "no such pieces" (.p 29), .lst [.t [.p 28, .p 30, .d (.str "BadPieces")]], .lst [.t [.p 1, .p 3, .d (.str "BadPuzzle")], .t [.p 5, .p 7, .d (.str "BadWord")], .t [.p 10, .p 12, .d (.str "BadRecipe")], .t [.p 16, .p 18, .d (.str "BadLadder")], .t [.p 22, .p 24, .d (.str "BadPaper")], .t [.p 28, .p 30, .d (.str "BadPieces")]], .xd [("place", .d x)], .xo (cs 2) "no such glue" (.p 33), .xd [("place", .d x)], .xo (cs 2) "no such glue" (.p 35), .xd [("place", .d x)], .xo (cs 19) "no such web" (.p 37), .xd [("place", .d x)], .xo (cs 19) "no such web" (.p 39), .lst [.t [.p 34, .p 36, .d (.str "BadGlue")], .t [.p 38, .p 40, .d (.str "BadWeb")]], .lst [.t [.p 1, .p 3, .d (.str "BadPuzzle")], .t [.p 5, .p 7, .d (.str "BadWord")], .t [.p 10, .p 12, .d (.str "BadRecipe")], .t [.p 16, .p 18, .d (.str "BadLadder")], .t [.p 22, .p 24, .d (.str "BadPaper")], .t [.p 28, .p 30, .d (.str "BadPieces")], .t [.p 34, .p 36, .d (.str "BadGlue")], .t [.p 38, .p 40, .d (.str "BadWeb")]], .xd [("place", .d x)], .xo (cs 18) "no such text" (.p 43), .xd [("place", .d x)], .xo (cs 18) "no such text" (.p 45), .xd [("place", .d x)], .xo (cs 1) "no such deed" (.p 47), .xd [("place", .d x)], .xo (cs 1) "no such deed" (.p 49), .lst [.t [.p 44, .p 46, .d (.str "BadText")], .t [.p 48, .p 50, .d (.str "BadDeed")]], .lst [.t [.p 1, .p 3, .d (.str "BadPuzzle")], .t [.p 5, .p 7, .d (.str "BadWord")], .t [.p 10, .p 12, .d (.str "BadRecipe")], .t [.p 16, .p 18, .d (.str "BadLadder")], .t [.p 22, .p 24, .d (.str "BadPaper")], .t [.p 28, .p 30, .d (.str "BadPieces")], .t [.p 34, .p 36, .d (.str "BadGlue")], .t [.p 38, .p 40, .d (.str "BadWeb")], .t [.p 44, .p 46, .d (.str "BadText")], .t [.p 48, .p 50, .d (.str "BadDeed")]], .xd [("place", .d x)], .xo (cs 15) "no such stages" (.p 53), .xd [("place", .d x)], .xo (cs 15) "no such stages" (.p 55), .lst [.t [.p 54, .p 56, .d (.str "BadStages")]], .lst [.t [.p 1, .p 3, .d (.str "BadPuzzle")], .t [.p 5, .p 7, .d (.str "BadWord")], .t [.p 10, .p 12, .d (.str "BadRecipe")], .t [.p 16, .p 18, .d (.str "BadLadder")], .t [.p 22, .p 24, .d (.str "BadPaper")], .t [.p 28, .p 30, .d (.str "BadPieces")], .t [.p 34, .p 36, .d (.str "BadGlue")], .t [.p 38, .p 40, .d (.str "BadWeb")], .t [.p 44, .p 46, .d (.str "BadText")], .t [.p 48, .p 50, .d (.str "BadDeed")], .t [.p 54, .p 56, .d (.str "BadStages")]], .xd [("place", .d x)], .xo (cs 4) "no such macros" (.p 59), .xd [("place", .d x)], .xo (cs 4) "no such macros" (.p 61)]) (ex_tup (ea_cons (ex_to (s := .p 60) (M2 := [.xd [("place", .d x)], .xo (cs 11) "no such puzzle" (.p 0), .xd [("place", .d x)], .xo (cs 11) "no such puzzle" (.p 2), .xd [("place", .d x)], .xo (cs 20) "no such word" (.p 4), .xd [("place", .d x)], .xo (cs 20) "no such word" (.p 6), .lst [.t [.p 1, .p 3, .d (.str "BadPuzzle")], .t [.p 5, .p 7, .d (.str "BadWord")]], .xd [("place", .d x)], .xo (cs 12) "no such recipe" (.p 9), .xd [("place", .d x)], .xo (cs 12) "no such recipe" (.p 11), .lst [.t [.p 10, .p 12, .d (.str "BadRecipe")]], .lst [.t [.p 1, .p 3, .d (.str "BadPuzzle")], .t [.p 5, .p 7, .d (.str "BadWord")], .t [.p 10, .p 12, .d (.str "BadRecipe")]], .xd [("place", .d x)], .xo (cs 3) "no such ladder" (.p 15), .xd [("place", .d x)], .xo (cs 3) "no such ladder" (.p 17), .lst [.t [.p 16, .p 18, .d (.str "BadLadder")]], .lst [.t [.p 1, .p 3, .d (.str "BadPuzzle")], .t [.p 5, .p 7, .d (.str "BadWord")], .t [.p 10, .p 12, .d (.str "BadRecipe")], .t [.p 16, .p 18, .d (.str "BadLadder")]], .xd [("place", .d x)], .xo (cs 7) "no such paper" (.p 21), .xd [("place", .d x)], .xo (cs 7) "no such paper" (.p 23), .lst [.t [.p 22, .p 24, .d (.str "BadPaper")]], .lst [.t [.p 1, .p 3, .d (.str "BadPuzzle")], .t [.p 5, .p 7, .d (.str "BadWord")], .t [.p 10, .p 12, .d (.str "BadRecipe")], .t [.p 16, .p 18, .d (.str "BadLadder")], .t [.p 22, .p 24, .d (.str "BadPaper")]], .xd [("place", .d x)], .xo (cs 9) "no such pieces" (.p 27), .xd [("place", .d x)], .xo (cs 9) "no such pieces" (.p 29), .lst [.t [.p 28, .p 30, .d (.str "BadPieces")]], .lst [.t [.p 1, .p 3, .d (.str "BadPuzzle")], .t [.p 5, .p 7, .d (.str "BadWord")], .t [.p 10, .p 12, .d (.str "BadRecipe")], .t [.p 16, .p 18, .d (.str "BadLadder")], .t [.p 22, .p 24, .d (.str "BadPaper")], .t [.p 28, .p 30, .d (.str "BadPieces")]], .xd [("place", .d x)], .xo (cs 2) "no such glue" (.p 33), .xd [("place", .d x)], .xo (cs 2) "no such glue" (.p 35), .xd [("place", .d x)], .xo (cs 19) "no such web" (.p 37), .xd [("place", .d x)], .xo (cs 19) "no such web" (.p 39), .lst [.t [.p 34, .p 36, .d (.str "BadGlue")], .t [.p 38, .p 40, .d (.str "BadWeb")]], .lst [.t [.p 1, .p 3, .d (.str "BadPuzzle")], .t [.p 5, .p 7, .d (.str "BadWord")], .t [.p 10, .p 12, .d (.str "BadRecipe")], .t [.p 16, .p 18, .d (.str "BadLadder")], .t [.p 22, .p 24, .d (.str "BadPaper")], .t [.p 28, .p 30, .d (.str "BadPieces")], .t [.p 34, .p 36, .d (.str "BadGlue")], .t [.p 38, .p 40, .d (.str "BadWeb")]], .xd [("place", .d x)], .xo (cs 18) "no such text" (.p 43), .xd [("place", .d x)], .xo (cs 18) "no such text" (.p 45), .xd [("place", .d x)], .xo (cs 1) "no such deed" (.p 47), .xd [("place", .d x)], .xo (cs 1) "no such deed" (.p 49), .lst [.t [.p 44, .p 46, .d (.str "BadText")], .t [.p 48, .p 50, .d (.str "BadDeed")]], .lst [.t [.p 1, .p 3, .d (.str "BadPuzzle")], .t [.p 5, .p 7, .d (.str "BadWord")], .t [.p 10, .p 12, .d (.str "BadRecipe")], .t [.p 16, .p 18, .d (.str "BadLadder")], .t [.p 22, .p 24, .d (.str "BadPaper")], .t [.p 28, .p 30, .d (.str "BadPieces")], .t [.p 34, .p 36, .d (.str "BadGlue")], .t [.p 38, .p 40, .d (.str "BadWeb")], .t [.p 44, .p 46, .d (.str "BadText")], .t [.p 48, .p 50, .d (.str "BadDeed")]], .xd [("place", .d x)], .xo (cs 15) "no such stages" (.p 53), .xd [("place", .d x)], .xo (cs 15) "no such stages" (.p 55), .lst [.t [.p 54, .p 56, .d (.str "BadStages")]], .lst [.t [.p 1, .p 3, .d (.str "BadPuzzle")], .t [.p 5, .p 7, .d (.str "BadWord")], .t [.p 10, .p 12, .d (.str "BadRecipe")], .t [.p 16, .p 18, .d (.str "BadLadder")], .t [.p 22, .p 24, .d (.str "BadPaper")], .t [.p 28, .p 30, .d (.str "BadPieces")], .t [.p 34, .p 36, .d (.str "BadGlue")], .t [.p 38, .p 40, .d (.str "BadWeb")], .t [.p 44, .p 46, .d (.str "BadText")], .t [.p 48, .p 50, .d (.str "BadDeed")], .t [.p 54, .p 56, .d (.str "BadStages")]], .xd [("place", .d x)], .xo (cs 4) "no such macros" (.p 59)]) (ex_mkx w4 (ex_var 0)) rfl rfl) (ea_cons (ex_to (s := .p 62) (M2 := [.xd [("place", .d x)], .xo (cs 11) "no such puzzle" (.p 0), .xd [("place", .d x)], .xo (cs 11) "no such puzzle" (.p 2), .xd [("place", .d x)], .xo (cs 20) "no such word" (.p 4), .xd [("place", .d x)], .xo (cs 20) "no such word" (.p 6), .lst [.t [.p 1, .p 3, .d (.str "BadPuzzle")], .t [.p 5, .p 7, .d (.str "BadWord")]], .xd [("place", .d x)], .xo (cs 12) "no such recipe" (.p 9), .xd [("place", .d x)], .xo (cs 12) "no such recipe" (.p 11), .lst [.t [.p 10, .p 12, .d (.str "BadRecipe")]], .lst [.t [.p 1, .p 3, .d (.str "BadPuzzle")], .t [.p 5, .p 7, .d (.str "BadWord")], .t [.p 10, .p 12, .d (.str "BadRecipe")]], .xd [("place", .d x)], .xo (cs 3) "no such ladder" (.p 15), .xd [("place", .d x)], .xo (cs 3) "no such ladder" (.p 17), .lst [.t [.p 16, .p 18, .d (.str "BadLadder")]], .lst [.t [.p 1, .p 3, .d (.str "BadPuzzle")], .t [.p 5, .p 7, .d (.str "BadWord")], .t [.p 10, .p 12, .d (.str "BadRecipe")], .t [.p 16, .p 18, .d (.str "BadLadder")]], .xd [("place", .d x)], .xo (cs 7) "no such paper" (.p 21), .xd [("place", .d x)], .xo (cs 7) "no such paper" (.p 23), .lst [.t [.p 22, .p 24, .d (.str "BadPaper")]], .lst [.t [.p 1, .p 3, .d (.str "BadPuzzle")], .t [.p 5, .p 7, .d (.str "BadWord")], .t [.p 10, .p 12, .d (.str "BadRecipe")], .t [.p 16, .p 18, .d (.str "BadLadder")], .t [.p 22, .p 24, .d (.str "BadPaper")]], .xd [("place", .d x)], .xo (cs 9) "no such pieces" (.p 27), .xd [("place", .d x)], .xo (cs 9) "no such pieces" (.p 29), .lst [.t [.p 28, .p 30, .d (.str "BadPieces")]], .lst [.t [.p 1, .p 3, .d (.str "BadPuzzle")], .t [.p 5, .p 7, .d (.str "BadWord")], .t [.p 10, .p 12, .d (.str "BadRecipe")], .t [.p 16, .p 18, .d (.str "BadLadder")], .t [.p 22, .p 24, .d (.str "BadPaper")], .t [.p 28, .p 30, .d (.str "BadPieces")]], .xd [("place", .d x)], .xo (cs 2) "no such glue" (.p 33), .xd [("place", .d x)], .xo (cs 2) "no such glue" (.p 35), .xd [("place", .d x)], .xo (cs 19) "no such web" (.p 37), .xd [("place", .d x)], .xo (cs 19) "no such web" (.p 39), .lst [.t [.p 34, .p 36, .d (.str "BadGlue")], .t [.p 38, .p 40, .d (.str "BadWeb")]], .lst [.t [.p 1, .p 3, .d (.str "BadPuzzle")], .t [.p 5, .p 7, .d (.str "BadWord")], .t [.p 10, .p 12, .d (.str "BadRecipe")], .t [.p 16, .p 18, .d (.str "BadLadder")], .t [.p 22, .p 24, .d (.str "BadPaper")], .t [.p 28, .p 30, .d (.str "BadPieces")], .t [.p 34, .p 36, .d (.str "BadGlue")], .t [.p 38, .p 40, .d (.str "BadWeb")]], .xd [("place", .d x)], .xo (cs 18) "no such text" (.p 43), .xd [("place", .d x)], .xo (cs 18) "no such text" (.p 45), .xd [("place", .d x)], .xo (cs 1) "no such deed" (.p 47), .xd [("place", .d x)], .xo (cs 1) "no such deed" (.p 49), .lst [.t [.p 44, .p 46, .d (.str "BadText")], .t [.p 48, .p 50, .d (.str "BadDeed")]], .lst [.t [.p 1, .p 3, .d (.str "BadPuzzle")], .t [.p 5, .p 7, .d (.str "BadWord")], .t [.p 10, .p 12, .d (.str "BadRecipe")], .t [.p 16, .p 18, .d (.str "BadLadder")], .t [.p 22, .p 24, .d (.str "BadPaper")], .t [.p 28, .p 30, .d (.str "BadPieces")], .t [.p 34, .p 36, .d (.str "BadGlue")], .t [.p 38, .p 40, .d (.str "BadWeb")], .t [.p 44, .p 46, .d (.str "BadText")], .t [.p 48, .p 50, .d (.str "BadDeed")]], .xd [("place", .d x)], .xo (cs 15) "no such stages" (.p 53), .xd [("place", .d x)], .xo (cs 15) "no such stages" (.p 55), .lst [.t [.p 54, .p 56, .d (.str "BadStages")]], .lst [.t [.p 1, .p 3, .d (.str "BadPuzzle")], .t [.p 5, .p 7, .d (.str "BadWord")], .t [.p 10, .p 12, .d (.str "BadRecipe")], .t [.p 16, .p 18, .d (.str "BadLadder")], .t [.p 22, .p 24, .d (.str "BadPaper")], .t [.p 28, .p 30, .d (.str "BadPieces")], .t [.p 34, .p 36, .d (.str "BadGlue")], .t [.p 38, .p 40, .d (.str "BadWeb")], .t [.p 44, .p 46, .d (.str "BadText")], .t [.p 48, .p 50, .d (.str "BadDeed")], .t [.p 54, .p 56, .d (.str "BadStages")]], .xd [("place", .d x)], .xo (cs 4) "no such macros" (.p 59), .xd [("place", .d x)], .xo (cs 4) "no such macros" (.p 61)]) (ex_mkxK w4 (ex_var 0)) rfl rfl) (ea_cons ex_str ea_nil))) (Nat.le_of_ble_eq_true rfl)) rfl rfl) (ea_nil)) (Nat.le_of_ble_eq_true rfl)) rfl rfl) (OS.to (os_cat (xs := [.t [.p 1, .p 3, .d (.str "BadPuzzle")], .t [.p 5, .p 7, .d (.str "BadWord")], .t [.p 10, .p 12, .d (.str "BadRecipe")], .t [.p 16, .p 18, .d (.str "BadLadder")], .t [.p 22, .p 24, .d (.str "BadPaper")], .t [.p 28, .p 30, .d (.str "BadPieces")], .t [.p 34, .p 36, .d (.str "BadGlue")], .t [.p 38, .p 40, .d (.str "BadWeb")], .t [.p 44, .p 46, .d (.str "BadText")], .t [.p 48, .p 50, .d (.str "BadDeed")], .t [.p 54, .p 56, .d (.str "BadStages")]]) (ys := [.t [.p 60, .p 62, .d (.str "BadMacros")]]) rfl rfl (Nat.le_of_ble_eq_true rfl)) (r' := .p 64) (M' := [.xd [("place", .d x)], .xo (cs 11) "no such puzzle" (.p 0), .xd [("place", .d x)], .xo (cs 11) "no such puzzle" (.p 2), .xd [("place", .d x)], .xo (cs 20) "no such word" (.p 4), .xd [("place", .d x)], .xo (cs 20) "no such word" (.p 6), .lst [.t [.p 1, .p 3, .d (.str "BadPuzzle")], .t [.p 5, .p 7, .d (.str "BadWord")]], .xd [("place", .d x)], .xo (cs 12) "no such recipe" (.p 9), .xd [("place", .d x)], .xo (cs 12) "no such recipe" (.p 11), .lst [.t [.p 10, .p 12, .d (.str "BadRecipe")]], .lst [.t [.p 1, .p 3, .d (.str "BadPuzzle")], .t [.p 5, .p 7, .d (.str "BadWord")], .t [.p 10, .p 12, .d (.str "BadRecipe")]], .xd [("place", .d x)], .xo (cs 3) "no such ladder" (.p 15), .xd [("place", .d x)], .xo (cs 3) "no such ladder" (.p 17), .lst [.t [.p 16, .p 18, .d (.str "BadLadder")]], .lst [.t [.p 1, .p 3, .d (.str "BadPuzzle")], .t [.p 5, .p 7, .d (.str "BadWord")], .t [.p 10, .p 12, .d (.str "BadRecipe")], .t [.p 16, .p 18, .d (.str "BadLadder")]], .xd [("place", .d x)], .xo (cs 7) "no such paper" (.p 21), .xd [("place", .d x)], .xo (cs 7) "no such paper" (.p 23), .lst [.t [.p 22, .p 24, .d (.str "BadPaper")]], .lst [.t [.p 1, .p 3, .d (.str "BadPuzzle")], .t [.p 5, .p 7, .d (.str "BadWord")], .t [.p 10, .p 12, .d (.str "BadRecipe")], .t [.p 16, .p 18, .d (.str "BadLadder")], .t [.p 22, .p 24, .d (.str "BadPaper")]], .xd [("place", .d x)], .xo (cs 9) "no such pieces" (.p 27), .xd [("place", .d x)], .xo (cs 9) "no such pieces" (.p 29), .lst [.t [.p 28, .p 30, .d (.str "BadPieces")]], .lst [.t [.p 1, .p 3, .d (.str "BadPuzzle")], .t [.p 5, .p 7, .d (.str "BadWord")], .t [.p 10, .p 12, .d (.str "BadRecipe")], .t [.p 16, .p 18, .d (.str "BadLadder")], .t [.p 22, .p 24, .d (.str "BadPaper")], .t [.p 28, .p 30, .d (.str "BadPieces")]], .xd [("place", .d x)], .xo (cs 2) "no such glue" (.p 33), .xd [("place", .d x)], .xo (cs 2) "no such glue" (.p 35), .xd [("place", .d x)], .xo (cs 19) "no such web" (.p 37), .xd [("place", .d x)], .xo (cs 19) "no such web" (.p 39), .lst [.t [.p 34, .p 36, .d (.str "BadGlue")], .t [.p 38, .p 40, .d (.str "BadWeb")]], .lst [.t [.p 1, .p 3, .d (.str "BadPuzzle")], .t [.p 5, .p 7, .d (.str "BadWord")], .t [.p 10, .p 12, .d (.str "BadRecipe")], .t [.p 16, .p 18, .d (.str "BadLadder")], .t [.p 22, .p 24, .d (.str "BadPaper")], .t [.p 28, .p 30, .d (.str "BadPieces")], .t [.p 34, .p 36, .d (.str "BadGlue")], .t [.p 38, .p 40, .d (.str "BadWeb")]], .xd [("place", .d x)], .xo (cs 18) "no such text" (.p 43), .xd [("place", .d x)], .xo (cs 18) "no such text" (.p 45), .xd [("place", .d x)], .xo (cs 1) "no such deed" (.p 47), .xd [("place", .d x)], .xo (cs 1) "no such deed" (.p 49), .lst [.t [.p 44, .p 46, .d (.str "BadText")], .t [.p 48, .p 50, .d (.str "BadDeed")]], .lst [.t [.p 1, .p 3, .d (.str "BadPuzzle")], .t [.p 5, .p 7, .d (.str "BadWord")], .t [.p 10, .p 12, .d (.str "BadRecipe")], .t [.p 16, .p 18, .d (.str "BadLadder")], .t [.p 22, .p 24, .d (.str "BadPaper")], .t [.p 28, .p 30, .d (.str "BadPieces")], .t [.p 34, .p 36, .d (.str "BadGlue")], .t [.p 38, .p 40, .d (.str "BadWeb")], .t [.p 44, .p 46, .d (.str "BadText")], .t [.p 48, .p 50, .d (.str "BadDeed")]], .xd [("place", .d x)], .xo (cs 15) "no such stages" (.p 53), .xd [("place", .d x)], .xo (cs 15) "no such stages" (.p 55), .lst [.t [.p 54, .p 56, .d (.str "BadStages")]], .lst [.t [.p 1, .p 3, .d (.str "BadPuzzle")], .t [.p 5, .p 7, .d (.str "BadWord")], .t [.p 10, .p 12, .d (.str "BadRecipe")], .t [.p 16, .p 18, .d (.str "BadLadder")], .t [.p 22, .p 24, .d (.str "BadPaper")], .t [.p 28, .p 30, .d (.str "BadPieces")], .t [.p 34, .p 36, .d (.str "BadGlue")], .t [.p 38, .p 40, .d (.str "BadWeb")], .t [.p 44, .p 46, .d (.str "BadText")], .t [.p 48, .p 50, .d (.str "BadDeed")], .t [.p 54, .p 56, .d (.str "BadStages")]], .xd [("place", .d x)], .xo (cs 4) "no such macros" (.p 59), .xd [("place", .d x)], .xo (cs 4) "no such macros" (.p 61), .lst [.t [.p 60, .p 62, .d (.str "BadMacros")]], .lst [.t [.p 1, .p 3, .d (.str "BadPuzzle")], .t [.p 5, .p 7, .d (.str "BadWord")], .t [.p 10, .p 12, .d (.str "BadRecipe")], .t [.p 16, .p 18, .d (.str "BadLadder")], .t [.p 22, .p 24, .d (.str "BadPaper")], .t [.p 28, .p 30, .d (.str "BadPieces")], .t [.p 34, .p 36, .d (.str "BadGlue")], .t [.p 38, .p 40, .d (.str "BadWeb")], .t [.p 44, .p 46, .d (.str "BadText")], .t [.p 48, .p 50, .d (.str "BadDeed")], .t [.p 54, .p 56, .d (.str "BadStages")], .t [.p 60, .p 62, .d (.str "BadMacros")]]]) rfl rfl)
                  · refine bx_cons ?_
                    apply sx_set 1
                    · exact ex_bin (ex_var 1) (ex_to (s := .p 69) (M2 := [.xd [("place", .d x)], .xo (cs 11) "no such puzzle" (.p 0), .xd [("place", .d x)], .xo (cs 11) "no such puzzle" (.p 2), .xd [("place", .d x)], .xo (cs 20) "no such word" (.p 4), .xd [("place", .d x)], .xo (cs 20) "no such word" (.p 6), .lst [.t [.p 1, .p 3, .d (.str "BadPuzzle")], .t [.p 5, .p 7, .d (.str "BadWord")]], .xd [("place", .d x)], .xo (cs 12) "no such recipe" (.p 9), .xd [("place", .d x)], .xo (cs 12) "no such recipe" (.p 11), .lst [.t [.p 10, .p 12, .d (.str "BadRecipe")]], .lst [.t [.p 1, .p 3, .d (.str "BadPuzzle")], .t [.p 5, .p 7, .d (.str "BadWord")], .t [.p 10, .p 12, .d (.str "BadRecipe")]], .xd [("place", .d x)], .xo (cs 3) "no such ladder" (.p 15), .xd [("place", .d x)], .xo (cs 3) "no such ladder" (.p 17), .lst [.t [.p 16, .p 18, .d (.str "BadLadder")]], .lst [.t [.p 1, .p 3, .d (.str "BadPuzzle")], .t [.p 5, .p 7, .d (.str "BadWord")], .t [.p 10, .p 12, .d (.str "BadRecipe")], .t [.p 16, .p 18, .d (.str "BadLadder")]], .xd [("place", .d x)], .xo (cs 7) "no such paper" (.p 21), .xd [("place", .d x)], .xo (cs 7) "no such paper" (.p 23), .lst [.t [.p 22, .p 24, .d (.str "BadPaper")]], .lst [.t [.p 1, .p 3, .d (.str "BadPuzzle")], .t [.p 5, .p 7, .d (.str "BadWord")], .t [.p 10, .p 12, .d (.str "BadRecipe")], .t [.p 16, .p 18, .d (.str "BadLadder")], .t [.p 22, .p 24, .d (.str "BadPaper")]], .xd [("place", .d x)], .xo (cs 9) "no such pieces" (.p 27), .xd [("place", .d x)], .xo (cs 9) "no such pieces" (.p 29), .lst [.t [.p 28, .p 30, .d (.str "BadPieces")]], .lst [.t [.p 1, .p 3, .d (.str "BadPuzzle")], .t [.p 5, .p 7, .d (.str "BadWord")], .t [.p 10, .p 12, .d (.str "BadRecipe")], .t [.p 16, .p 18, .d (.str "BadLadder")], .t [.p 22, .p 24, .d (.str "BadPaper")], .t [.p 28, .p 30, .d (.str "BadPieces")]], .xd [("place", .d x)], .xo (cs 2) "no such glue" (.p 33), .xd [("place", .d x)], .xo (cs 2) "no such glue" (.p 35), .xd [("place", .d x)], .xo (cs 19) "no such web" (.p 37), .xd [("place", .d x)], .xo (cs 19) "no such web" (.p 39), .lst [.t [.p 34, .p 36, .d (.str "BadGlue")], .t [.p 38, .p 40, .d (.str "BadWeb")]], .lst [.t [.p 1, .p 3, .d (.str "BadPuzzle")], .t [.p 5, .p 7, .d (.str "BadWord")], .t [.p 10, .p 12, .d (.str "BadRecipe")], .t [.p 16, .p 18, .d (.str "BadLadder")], .t [.p 22, .p 24, .d (.str "BadPaper")], .t [.p 28, .p 30, .d (.str "BadPieces")], .t [.p 34, .p 36, .d (.str "BadGlue")], .t [.p 38, .p 40, .d (.str "BadWeb")]], .xd [("place", .d x)], .xo (cs 18) "no such text" (.p 43), .xd [("place", .d x)], .xo (cs 18) "no such text" (.p 45), .xd [("place", .d x)], .xo (cs 1) "no such deed" (.p 47), .xd [("place", .d x)], .xo (cs 1) "no such deed" (.p 49), .lst [.t [.p 44, .p 46, .d (.str "BadText")], .t [.p 48, .p 50, .d (.str "BadDeed")]], .lst [.t [.p 1, .p 3, .d (.str "BadPuzzle")], .t [.p 5, .p 7, .d (.str "BadWord")], .t [.p 10, .p 12, .d (.str "BadRecipe")], .t [.p 16, .p 18, .d (.str "BadLadder")], .t [.p 22, .p 24, .d (.str "BadPaper")], .t [.p 28, .p 30, .d (.str "BadPieces")], .t [.p 34, .p 36, .d (.str "BadGlue")], .t [.p 38, .p 40, .d (.str "BadWeb")], .t [.p 44, .p 46, .d (.str "BadText")], .t [.p 48, .p 50, .d (.str "BadDeed")]], .xd [("place", .d x)], .xo (cs 15) "no such stages" (.p 53), .xd [("place", .d x)], .xo (cs 15) "no such stages" (.p 55), .lst [.t [.p 54, .p 56, .d (.str "BadStages")]], .lst [.t [.p 1, .p 3, .d (.str "BadPuzzle")], .t [.p 5, .p 7, .d (.str "BadWord")], .t [.p 10, .p 12, .d (.str "BadRecipe")], .t [.p 16, .p 18, .d (.str "BadLadder")], .t [.p 22, .p 24, .d (.str "BadPaper")], .t [.p 28, .p 30, .d (.str "BadPieces")], .t [.p 34, .p 36, .d (.str "BadGlue")], .t [.p 38, .p 40, .d (.str "BadWeb")], .t [.p 44, .p 46, .d (.str "BadText")], .t [.p 48, .p 50, .d (.str "BadDeed")], .t [.p 54, .p 56, .d (.str "BadStages")]], .xd [("place", .d x)], .xo (cs 4) "no such macros" (.p 59), .xd [("place", .d x)], .xo (cs 4) "no such macros" (.p 61), .lst [.t [.p 60, .p 62, .d (.str "BadMacros")]], .lst [.t [.p 1, .p 3, .d (.str "BadPuzzle")], .t [.p 5, .p 7, .d (.str "BadWord")], .t [.p 10, .p 12, .d (.str "BadRecipe")], .t [.p 16, .p 18, .d (.str "BadLadder")], .t [.p 22, .p 24, .d (.str "BadPaper")], .t [.p 28, .p 30, .d (.str "BadPieces")], .t [.p 34, .p 36, .d (.str "BadGlue")], .t [.p 38, .p 40, .d (.str "BadWeb")], .t [.p 44, .p 46, .d (.str "BadText")], .t [.p 48, .p 50, .d (.str "BadDeed")], .t [.p 54, .p 56, .d (.str "BadStages")], .t [.p 60, .p 62, .d (.str "BadMacros")]], .xd [("place", .d x)], .xo (cs 6) "no such orders" (.p 65), .xd [("place", .d x)], .xo (cs 6) "no such orders" (.p 67), .lst [.t [.p 66, .p 68, .d (.str "BadOrders")]]]) (ex_list (ea_cons (ex_to (s := .t [.p 66, .p 68, .d (.str "BadOrders")]) (M2 := [.xd [("place", .d x)], .xo (cs 11) "no such puzzle" (.p 0), .xd [("place", .d x)], .xo (cs 11) "no such puzzle" (.p 2), .xd [("place", .d x)], .xo (cs 20) "no such word" (.p 4), .xd [("place", .d x)], .xo (cs 20) "no such word" (.p 6), .lst [.t [.p 1, .p 3, .d (.str "BadPuzzle")], .t [.p 5, .p 7, .d (.str "BadWord")]], .xd [("place", .d x)], .xo (cs 12) "no such recipe" (.p 9), .xd [("place", .d x)], .xo (cs 12) "no such recipe" (.p 11), .lst [.t [.p 10, .p 12, .d (.str "BadRecipe")]], .lst [.t [.p 1, .p 3, .d (.str "BadPuzzle")], .t [.p 5, .p 7, .d (.str "BadWord")], .t [.p 10, .p 12, .d (.str "BadRecipe")]], .xd [("place", .d x)], .xo (cs 3) "no such ladder" (.p 15), .xd [("place", .d x)], .xo (cs 3) "no such ladder" (.p 17), .lst [.t [.p 16, .p 18, .d (.str "BadLadder")]], .lst [.t [.p 1, .p 3, .d (.str "BadPuzzle")], .t [.p 5, .p 7, .d (.str "BadWord")], .t [.p 10, .p 12, .d (.str "BadRecipe")], .t [.p 16, .p 18, .d (.str "BadLadder")]], .xd [("place", .d x)], .xo (cs 7) "no such paper" (.p 21), .xd [("place", .d x)], .xo (cs 7) "no such paper" (.p 23), .lst [.t [.p 22, .p 24, .d (.str "BadPaper")]], .lst [.t [.p 1, .p 3, .d (.str "BadPuzzle")], .t [.p 5, .p 7, .d (.str "BadWord")], .t [.p 10, .p 12, .d (.str "BadRecipe")], .t [.p 16, .p 18, .d (.str "BadLadder")], .t [.p 22, .p 24, .d (.str "BadPaper")]], .xd [("place", .d x)], .xo (cs 9) "no such pieces" (.p 27), .xd [("place", .d x)], .xo (cs 9) "no such pieces" (.p 29), .lst [.t [.p 28, .p 30, .d (.str "BadPieces")]], .lst [.t [.p 1, .p 3, .d (.str "BadPuzzle")], .t [.p 5, .p 7, .d (.str "BadWord")], .t [.p 10, .p 12, .d (.str "BadRecipe")], .t [.p 16, .p 18, .d (.str "BadLadder")], .t [.p 22, .p 24, .d (.str "BadPaper")], .t [.p 28, .p 30, .d (.str "BadPieces")]], .xd [("place", .d x)], .xo (cs 2) "no such glue" (.p 33), .xd [("place", .d x)], .xo (cs 2) "no such glue" (.p 35), .xd [("place", .d x)], .xo (cs 19) "no such web" (.p 37), .xd [("place", .d x)], .xo (cs 19) "no such web" (.p 39), .lst [.t [.p 34, .p 36, .d (.str "BadGlue")], .t [.p 38, .p 40, .d (.str "BadWeb")]], .lst [.t [.p 1, .p 3, .d (.str "BadPuzzle")], .t [.p 5, .p 7, .d (.str "BadWord")], .t [.p 10, .p 12, .d (.str "BadRecipe")], .t [.p 16, .p 18, .d (.str "BadLadder")], .t [.p 22, .p 24, .d (.str "BadPaper")], .t [.p 28, .p 30, .d (.str "BadPieces")], .t [.p 34, .p 36, .d (.str "BadGlue")], .t [.p 38, .p 40, .d (.str "BadWeb")]], .xd [("place", .d x)], .xo (cs 18) "no such text" (.p 43), .xd [("place", .d x)], .xo (cs 18) "no such text" (.p 45), .xd [("place", .d x)], .xo (cs 1) "no such deed" (.p 47), .xd [("place", .d x)], .xo (cs 1) "no such deed" (.p 49), .lst [.t [.p 44, .p 46, .d (.str "BadText")], .t [.p 48, .p 50, .d (.str "BadDeed")]], .lst [.t [.p 1, .p 3, .d (.str "BadPuzzle")], .t [.p 5, .p 7, .d (.str "BadWord")], .t [.p 10, .p 12, .d (.str "BadRecipe")], .t [.p 16, .p 18, .d (.str "BadLadder")], .t [.p 22, .p 24, .d (.str "BadPaper")], .t [.p 28, .p 30, .d (.str "BadPieces")], .t [.p 34, .p 36, .d (.str "BadGlue")], .t [.p 38, .p 40, .d (.str "BadWeb")], .t [.p 44, .p 46, .d (.str "BadText")], .t [.p 48, .p 50, .d (.str "BadDeed")]], .xd [("place", .d x)], .xo (cs 15) "no such stages" (.p 53), .xd [("place", .d x)], .xo (cs 15) "no such stages" (.p 55), .lst [.t [.p 54, .p 56, .d (.str "BadStages")]], .lst [.t [.p 1, .p 3, .d (.str "BadPuzzle")], .t [.p 5, .p 7, .d (.str "BadWord")], .t [.p 10, .p 12, .d (.str "BadRecipe")], .t [.p 16, .p 18, .d (.str "BadLadder")], .t [.p 22, .p 24, .d (.str "BadPaper")], .t [.p 28, .p 30, .d (.str "BadPieces")], .t [.p 34, .p 36, .d (.str "BadGlue")], .t [.p 38, .p 40, .d (.str "BadWeb")], .t [.p 44, .p 46, .d (.str "BadText")], .t [.p 48, .p 50, .d (.str "BadDeed")], .t [.p 54, .p 56, .d (.str "BadStages")]], .xd [("place", .d x)], .xo (cs 4) "no such macros" (.p 59), .xd [("place", .d x)], .xo (cs 4) "no such macros" (.p 61), .lst [.t [.p 60, .p 62, .d (.str "BadMacros")]], .lst [.t [.p 1, .p 3, .d (.str "BadPuzzle")], .t [.p 5, .p 7, .d (.str "BadWord")], .t [.p 10, .p 12, .d (.str "BadRecipe")], .t [.p 16, .p 18, .d (.str "BadLadder")], .t [.p 22, .p 24, .d (.str "BadPaper")], .t [.p 28, .p 30, .d (.str "BadPieces")], .t [.p 34, .p 36, .d (.str "BadGlue")], .t [.p 38, .p 40, .d (.str "BadWeb")], .t [.p 44, .p 46, .d (.str "BadText")], .t [.p 48, .p 50, .d (.str "BadDeed")], .t [.p 54, .p 56, .d (.str "BadStages")], .t [.p 60, .p 62, .d (.str "BadMacros")]], .xd [("place", .d x)], .xo (cs 6) "no such orders" (.p 65), .xd [("place", .d x)], .xo (cs 6) "no such orders" (.p 67)]) (ex_tup (ea_cons (ex_to (s := .p 66) (M2 := [.xd [("place", .d x)], .xo (cs 11) "no such puzzle" (.p 0), .xd [("place", .d x)], .xo (cs 11) "no such puzzle" (.p 2), .xd [("place", .d x)], .xo (cs 20) "no such word" (.p 4), .xd [("place", .d x)], .xo (cs 20) "no such word" (.p 6), .lst [.t [.p 1, .p 3, .d (.str "BadPuzzle")], .t [.p 5, .p 7, .d (.str "BadWord")]], .xd [("place", .d x)], .xo (cs 12) "no such recipe" (.p 9), .xd [("place", .d x)], .xo (cs 12) "no such recipe" (.p 11), .lst [.t [.p 10, .p 12, .d (.str "BadRecipe")]], .lst [.t [.p 1, .p 3, .d (.str "BadPuzzle")], .t [.p 5, .p 7, .d (.str "BadWord")], .t [.p 10, .p 12, .d (.str "BadRecipe")]], .xd [("place", .d x)], .xo (cs 3) "no such ladder" (.p 15), .xd [("place", .d x)], .xo (cs 3) "no such ladder" (.p 17), .lst [.t [.p 16, .p 18, .d (.str "BadLadder")]], .lst [.t [.p 1, .p 3, .d (.str "BadPuzzle")], .t [.p 5, .p 7, .d (.str "BadWord")], .t [.p 10, .p 12, .d (.str "BadRecipe")], .t [.p 16, .p 18, .d (.str "BadLadder")]], .xd [("place", .d x)], .xo (cs 7) "no such paper" (.p 21), .xd [("place", .d x)], .xo (cs 7) "no such paper" (.p 23), .lst [.t [.p 22, .p 24, .d (.str "BadPaper")]], .lst [.t [.p 1, .p 3, .d (.str "BadPuzzle")], .t [.p 5, .p 7, .d (.str "BadWord")], .t [.p 10, .p 12, .d (.str "BadRecipe")], .t [.p 16, .p 18, .d (.str "BadLadder")], .t [.p 22, .p 24, .d (.str "BadPaper")]], .xd [("place", .d x)], .xo (cs 9) "no such pieces" (.p 27), .xd [("place", .d x)], .xo (cs 9) "no such pieces" (.p 29), .lst [.t [.p 28, .p 30, .d (.str "BadPieces")]], .lst [.t [.p 1, .p 3, .d (.str "BadPuzzle")], .t [.p 5, .p 7, .d (.str "BadWord")], .t [.p 10, .p 12, .d (.str "BadRecipe")], .t [.p 16, .p 18, .d (.str "BadLadder")], .t [.p 22, .p 24, .d (.str "BadPaper")], .t [.p 28, .p 30, .d (.str "BadPieces")]], .xd [("place", .d x)], .xo (cs 2) "no such glue" (.p 33), .xd [("place", .d x)], .xo (cs 2) "no such glue" (.p 35), .xd [("place", .d x)], .xo (cs 19) "no such web" (.p 37), .xd [("place", .d x)], .xo (cs 19) "no such web" (.p 39), .lst [.t [.p 34, .p 36, .d (.str "BadGlue")], .t [.p 38, .p 40, .d (.str "BadWeb")]], .lst [.t [.p 1, .p 3, .d (.str "BadPuzzle")], .t [.p 5, .p 7, .d (.str "BadWord")], .t [.p 10, .p 12, .d (.str "BadRecipe")], .t [.p 16, .p 18, .d (.str "BadLadder")], .t [.p 22, .p 24, .d (.str "BadPaper")], .t [.p 28, .p 30, .d (.str "BadPieces")], .t [.p 34, .p 36, .d (.str "BadGlue")], .t [.p 38, .p 40, .d (.str "BadWeb")]], .xd [("place", .d x)], .xo (cs 18) "no such text" (.p 43), .xd [("place", .d x)], .xo (cs 18) "no such text" (.p 45), .xd [("place", .d x)], .xo (cs 1) "no such deed" (.p 47), .xd [("place", .d x)], .xo (cs 1) "no such deed" (.p 49), .lst [.t [.p 44, .p 46, .d (.str "BadText")], .t [.p 48, .p 50, .d (.str "BadDeed")]], .lst [.t [.p 1, .p 3, .d (.str "BadPuzzle")], .t [.p 5, .p 7, .d (.str "BadWord")], .t [.p 10, .p 12, .d (.str "BadRecipe")], .t [.p 16, .p 18, .d (.str "BadLadder")], .t [.p 22, .p 24, .d (.str "BadPaper")], .t [.p 28, .p 30, .d (.str "BadPieces")], .t [.p 34, .p 36, .d (.str "BadGlue")], .t [.p 38, .p 40, .d (.str "BadWeb")], .t [.p 44, .p 46, .d (.str "BadText")], .t [.p 48, .p 50, .d (.str "BadDeed")]], .xd [("place", .d x)], .xo (cs 15) "no such stages" (.p 53), .xd [("place", .d x)], .xo (cs 15) "no such stages" (.p 55), .lst [.t [.p 54, .p 56, .d (.str "BadStages")]], .lst [.t [.p 1, .p 3, .d (.str "BadPuzzle")], .t [.p 5, .p 7, .d (.str "BadWord")], .t [.p 10, .p 12, .d (.str "BadRecipe")], .t [.p 16, .p 18, .d (.str "BadLadder")], .t [.p 22, .p 24, .d (.str "BadPaper")], .t [.p 28, .p 30, .d (.str "BadPieces")], .t [.p 34, .p 36, .d (.str "BadGlue")], .t [.p 38, .p 40, .d (.str "BadWeb")], .t [.p 44, .p 46, .d (.str "BadText")], .t [.p 48, .p 50, .d (.str "BadDeed")], .t [.p 54, .p 56, .d (.str "BadStages")]], .xd [("place", .d x)], .xo (cs 4) "no such macros" (.p 59), .xd [("place", .d x)], .xo (cs 4) "no such macros" (.p 61), .lst [.t [.p 60, .p 62, .d (.str "BadMacros")]], .lst [.t [.p 1, .p 3, .d (.str "BadPuzzle")], .t [.p 5, .p 7, .d (.str "BadWord")], .t [.p 10, .p 12, .d (.str "BadRecipe")], .t [.p 16, .p 18, .d (.str "BadLadder")], .t [.p 22, .p 24, .d (.str "BadPaper")], .t [.p 28, .p 30, .d (.str "BadPieces")], .t [.p 34, .p 36, .d (.str "BadGlue")], .t [.p 38, .p 40, .d (.str "BadWeb")], .t [.p 44, .p 46, .d (.str "BadText")], .t [.p 48, .p 50, .d (.str "BadDeed")], .t [.p 54, .p 56, .d (.str "BadStages")], .t [.p 60, .p 62, .d (.str "BadMacros")]], .xd [("place", .d x)], .xo (cs 6) "no such orders" (.p 65)]) (ex_mkx w6 (ex_var 0)) rfl rfl) (ea_cons (ex_to (s := .p 68) (M2 := [.xd [("place", .d x)], .xo (cs 11) "no such puzzle" (.p 0), .xd [("place", .d x)], .xo (cs 11) "no such puzzle" (.p 2), .xd [("place", .d x)], .xo (cs 20) "no such word" (.p 4), .xd [("place", .d x)], .xo (cs 20) "no such word" (.p 6), .lst [.t [.p 1, .p 3, .d (.str "BadPuzzle")], .t [.p 5, .p 7, .d (.str "BadWord")]], .xd [("place", .d x)], .xo (cs 12) "no such recipe" (.p 9), .xd [("place", .d x)], .xo (cs 12) "no such recipe" (.p 11), .lst [.t [.p 10, .p 12, .d (.str "BadRecipe")]], .lst [.t [.p 1, .p 3, .d (.str "BadPuzzle")], .t [.p 5, .p 7, .d (.str "BadWord")], .t [.p 10, .p 12, .d (.str "BadRecipe")]], .xd [("place", .d x)], .xo (cs 3) "no such ladder" (.p 15), .xd [("place", .d x)], .xo (cs 3) "no such ladder" (.p 17), .lst [.t [.p 16, .p 18, .d (.str "BadLadder")]], .lst [.t [.p 1, .p 3, .d (.str "BadPuzzle")], .t [.p 5, .p 7, .d (.str "BadWord")], .t [.p 10, .p 12, .d (.str "BadRecipe")], .t [.p 16, .p 18, .d (.str "BadLadder")]], .xd [("place", .d x)], .xo (cs 7) "no such paper" (.p 21), .xd [("place", .d x)], .xo (cs 7) "no such paper" (.p 23), .lst [.t [.p 22, .p 24, .d (.str "BadPaper")]], .lst [.t [.p 1, .p 3, .d (.str "BadPuzzle")], .t [.p 5, .p 7, .d (.str "BadWord")], .t [.p 10, .p 12, .d (.str "BadRecipe")], .t [.p 16, .p 18, .d (.str "BadLadder")], .t [.p 22, .p 24, .d (.str "BadPaper")]], .xd [("place", .d x)], .xo (cs 9) "no such pieces" (.p 27), .xd [("place", .d x)], .xo (cs 9) "no such pieces" (.p 29), .lst [.t [.p 28, .p 30, .d (.str "BadPieces")]], .lst [.t [.p 1, .p 3, .d (.str "BadPuzzle")], .t [.p 5, .p 7, .d (.str "BadWord")], .t [.p 10, .p 12, .d (.str "BadRecipe")], .t [.p 16, .p 18, .d (.str "BadLadder")], .t [.p 22, .p 24, .d (.str "BadPaper")], .t [.p 28, .p 30, .d (.str "BadPieces")]], .xd [("place", .d x)], .xo (cs 2) "no such glue" (.p 33), .xd [("place", .d x)], .xo (cs 2) "no such glue" (.p 35), .xd [("place", .d x)], .xo (cs 19) "no such web" (.p 37), .xd [("place", .d x)], .xo (cs 19) "no such web" (.p 39), .lst [.t [.p 34, .p 36, .d (.str "BadGlue")], .t [.p 38, .p 40, .d (.str "BadWeb")]], .lst [.t [.p 1, .p 3, .d (.str "BadPuzzle")], .t [.p 5, .p 7, .d (.str "BadWord")], .t [.p 10, .p 12, .d (.str "BadRecipe")], .t [.p 16, .p 18, .d (.str "BadLadder")], .t [.p 22, .p 24, .d (.str "BadPaper")], .t [.p 28, .p 30, .d (.str "BadPieces")], .t [.p 34, .p 36, .d (.str "BadGlue")], .t [.p 38, .p 40, .d (.str "BadWeb")]], .xd [("place", .d x)], .xo (cs 18) "no such text" (.p 43), .xd [("place", .d x)], .xo (cs 18) "no such text" (.p 45), .xd [("place", .d x)], .xo (cs 1) "no such deed" (.p 47), .xd [("place", .d x)], .xo (cs 1) "no such deed" (.p 49), .lst [.t [.p 44, .p 46, .d (.str "BadText")], .t [.p 48, .p 50, .d (.str "BadDeed")]], .lst [.t [.p 1, .p 3, .d (.str "BadPuzzle")], .t [.p 5, .p 7, .d (.str "BadWord")], .t [.p 10, .p 12, .d (.str "BadRecipe")], .t [.p 16, .p 18, .d (.str "BadLadder")], .t [.p 22, .p 24, .d (.str "BadPaper")], .t [.p 28, .p 30, .d (.str "BadPieces")], .t [.p 34, .p 36, .d (.str "BadGlue")], .t [.p 38, .p 40, .d (.str "BadWeb")], .t [.p 44, .p 46, .d (.str "BadText")], .t [.p 48, .p 50, .d (.str "BadDeed")]], .xd [("place", .d x)], .xo (cs 15) "no such stages" (.p 53), .xd [("place", .d x)], .xo (cs 15) "no such stages" (.p 55), .lst [.t [.p 54, .p 56, .d (.str "BadStages")]], .lst [.t [.p 1, .p 3, .d (.str "BadPuzzle")], .t [.p 5, .p 7, .d (.str "BadWord")], .t [.p 10, .p 12, .d (.str "BadRecipe")], .t [.p 16, .p 18, .d (.str "BadLadder")], .t [.p 22, .p 24, .d (.str "BadPaper")], .t [.p 28, .p 30, .d (.str "BadPieces")], .t [.p 34, .p 36, .d (.str "BadGlue")], .t [.p 38, .p 40, .d (.str "BadWeb")], .t [.p 44, .p 46, .d (.str "BadText")], .t [.p 48, .p 50, .d (.str "BadDeed")], .t [.p 54, .p 56, .d (.str "BadStages")]], .xd [("place", .d x)], .xo (cs 4) "no such macros" (.p 59), .xd [("place", .d x)], .xo (cs 4) "no such macros" (.p 61), .lst [.t [.p 60, .p 62, .d (.str "BadMacros")]], .lst [.t [.p 1, .p 3, .d (.str "BadPuzzle")], .t [.p 5, .p 7, .d (.str "BadWord")], .t [.p 10, .p 12, .d (.str "BadRecipe")], .t [.p 16, .p 18, .d (.str "BadLadder")], .t [.p 22, .p 24, .d (.str "BadPaper")], .t [.p 28, .p 30, .d (.str "BadPieces")], .t [.p 34, .p 36, .d (.str "BadGlue")], .t [.p 38, .p 40, .d (.str "BadWeb")], .t [.p 44, .p 46, .d (.str "BadText")], .t [.p 48, .p 50, .d (.str "BadDeed")], .t [.p 54, .p 56, .d (.str "BadStages")], .t [.p 60, .p 62, .d (.str "BadMacros")]], .xd [("place", .d x)], .xo (cs 6) "no such orders" (.p 65), .xd [("place", .d x)], .xo (cs 6) "no such orders" (.p 67)]) (ex_mkxK w6 (ex_var 0)) rfl rfl) (ea_cons ex_str ea_nil))) (Nat.le_of_ble_eq_true rfl)) rfl rfl) (ea_nil)) (Nat.le_of_ble_eq_true rfl)) rfl rfl) (OS.to (os_cat (xs := [.t [.p 1, .p 3, .d (.str "BadPuzzle")], .t [.p 5, .p 7, .d (.str "BadWord")], .t [.p 10, .p 12, .d (.str "BadRecipe")], .t [.p 16, .p 18, .d (.str "BadLadder")], .t [.p 22, .p 24, .d (.str "BadPaper")], .t [.p 28, .p 30, .d (.str "BadPieces")], .t [.p 34, .p 36, .d (.str "BadGlue")], .t [.p 38, .p 40, .d (.str "BadWeb")], .t [.p 44, .p 46, .d (.str "BadText")], .t [.p 48, .p 50, .d (.str "BadDeed")], .t [.p 54, .p 56, .d (.str "BadStages")], .t [.p 60, .p 62, .d (.str "BadMacros")]]) (ys := [.t [.p 66, .p 68, .d (.str "BadOrders")]]) rfl rfl (Nat.le_of_ble_eq_true rfl)) (r' := .p 70) (M' := [.xd [("place", .d x)], .xo (cs 11) "no such puzzle" (.p 0), .xd [("place", .d x)], .xo (cs 11) "no such puzzle" (.p 2), .xd [("place", .d x)], .xo (cs 20) "no such word" (.p 4), .xd [("place", .d x)], .xo (cs 20) "no such word" (.p 6), .lst [.t [.p 1, .p 3, .d (.str "BadPuzzle")], .t [.p 5, .p 7, .d (.str "BadWord")]], .xd [("place", .d x)], .xo (cs 12) "no such recipe" (.p 9), .xd [("place", .d x)], .xo (cs 12) "no such recipe" (.p 11), .lst [.t [.p 10, .p 12, .d (.str "BadRecipe")]], .lst [.t [.p 1, .p 3, .d (.str "BadPuzzle")], .t [.p 5, .p 7, .d (.str "BadWord")], .t [.p 10, .p 12, .d (.str "BadRecipe")]], .xd [("place", .d x)], .xo (cs 3) "no such ladder" (.p 15), .xd [("place", .d x)], .xo (cs 3) "no such ladder" (.p 17), .lst [.t [.p 16, .p 18, .d (.str "BadLadder")]], .lst [.t [.p 1, .p 3, .d (.str "BadPuzzle")], .t [.p 5, .p 7, .d (.str "BadWord")], .t [.p 10, .p 12, .d (.str "BadRecipe")], .t [.p 16, .p 18, .d (.str "BadLadder")]], .xd [("place", .d x)], .xo (cs 7) "no such paper" (.p 21), .xd [("place", .d x)], .xo (cs 7) "no such paper" (.p 23), .lst [.t [.p 22, .p 24, .d (.str "BadPaper")]], .lst [.t [.p 1, .p 3, .d (.str "BadPuzzle")], .t [.p 5, .p 7, .d (.str "BadWord")], .t [.p 10, .p 12, .d (.str "BadRecipe")], .t [.p 16, .p 18, .d (.str "BadLadder")], .t [.p 22, .p 24, .d (.str "BadPaper")]], .xd [("place", .d x)], .xo (cs 9) "no such pieces" (.p 27), .xd [("place", .d x)], .xo (cs 9) "no such pieces" (.p 29), .lst [.t [.p 28, .p 30, .d (.str "BadPieces")]], .lst [.t [.p 1, .p 3, .d (.str "BadPuzzle")], .t [.p 5, .p 7, .d (.str "BadWord")], .t [.p 10, .p 12, .d (.str "BadRecipe")], .t [.p 16, .p 18, .d (.str "BadLadder")], .t [.p 22, .p 24, .d (.str "BadPaper")], .t [.p 28, .p 30, .d (.str "BadPieces")]], .xd [("place", .d x)], .xo (cs 2) "no such glue" (.p 33), .xd [("place", .d x)], .xo (cs 2) "no such glue" (.p 35), .xd [("place", .d x)], .xo (cs 19) "no such web" (.p 37), .xd [("place", .d x)], .xo (cs 19) "no such web" (.p 39), .lst [.t [.p 34, .p 36, .d (.str "BadGlue")], .t [.p 38, .p 40, .d (.str "BadWeb")]], .lst [.t [.p 1, .p 3, .d (.str "BadPuzzle")], .t [.p 5, .p 7, .d (.str "BadWord")], .t [.p 10, .p 12, .d (.str "BadRecipe")], .t [.p 16, .p 18, .d (.str "BadLadder")], .t [.p 22, .p 24, .d (.str "BadPaper")], .t [.p 28, .p 30, .d (.str "BadPieces")], .t [.p 34, .p 36, .d (.str "BadGlue")], .t [.p 38, .p 40, .d (.str "BadWeb")]], .xd [("place", .d x)], .xo (cs 18) "no such text" (.p 43), .xd [("place", .d x)], .xo (cs 18) "no such text" (.p 45), .xd [("place", .d x)], .xo (cs 1) "no such deed" (.p 47), .xd [("place", .d x)], .xo (cs 1) "no such deed" (.p 49), .lst [.t [.p 44, .p 46, .d (.str "BadText")], .t [.p 48, .p 50, .d (.str "BadDeed")]], .lst [.t [.p 1, .p 3, .d (.str "BadPuzzle")], .t [.p 5, .p 7, .d (.str "BadWord")], .t [.p 10, .p 12, .d (.str "BadRecipe")], .t [.p 16, .p 18, .d (.str "BadLadder")], .t [.p 22, .p 24, .d (.str "BadPaper")], .t [.p 28, .p 30, .d (.str "BadPieces")], .t [.p 34, .p 36, .d (.str "BadGlue")], .t [.p 38, .p 40, .d (.str "BadWeb")], .t [.p 44, .p 46, .d (.str "BadText")], .t [.p 48, .p 50, .d (.str "BadDeed")]], .xd [("place", .d x)], .xo (cs 15) "no such stages" (.p 53), .xd [("place", .d x)], .xo (cs 15) "no such stages" (.p 55), .lst [.t [.p 54, .p 56, .d (.str "BadStages")]], .lst [.t [.p 1, .p 3, .d (.str "BadPuzzle")], .t [.p 5, .p 7, .d (.str "BadWord")], .t [.p 10, .p 12, .d (.str "BadRecipe")], .t [.p 16, .p 18, .d (.str "BadLadder")], .t [.p 22, .p 24, .d (.str "BadPaper")], .t [.p 28, .p 30, .d (.str "BadPieces")], .t [.p 34, .p 36, .d (.str "BadGlue")], .t [.p 38, .p 40, .d (.str "BadWeb")], .t [.p 44, .p 46, .d (.str "BadText")], .t [.p 48, .p 50, .d (.str "BadDeed")], .t [.p 54, .p 56, .d (.str "BadStages")]], .xd [("place", .d x)], .xo (cs 4) "no such macros" (.p 59), .xd [("place", .d x)], .xo (cs 4) "no such macros" (.p 61), .lst [.t [.p 60, .p 62, .d (.str "BadMacros")]], .lst [.t [.p 1, .p 3, .d (.str "BadPuzzle")], .t [.p 5, .p 7, .d (.str "BadWord")], .t [.p 10, .p 12, .d (.str "BadRecipe")], .t [.p 16, .p 18, .d (.str "BadLadder")], .t [.p 22, .p 24, .d (.str "BadPaper")], .t [.p 28, .p 30, .d (.str "BadPieces")], .t [.p 34, .p 36, .d (.str "BadGlue")], .t [.p 38, .p 40, .d (.str "BadWeb")], .t [.p 44, .p 46, .d (.str "BadText")], .t [.p 48, .p 50, .d (.str "BadDeed")], .t [.p 54, .p 56, .d (.str "BadStages")], .t [.p 60, .p 62, .d (.str "BadMacros")]], .xd [("place", .d x)], .xo (cs 6) "no such orders" (.p 65), .xd [("place", .d x)], .xo (cs 6) "no such orders" (.p 67), .lst [.t [.p 66, .p 68, .d (.str "BadOrders")]], .lst [.t [.p 1, .p 3, .d (.str "BadPuzzle")], .t [.p 5, .p 7, .d (.str "BadWord")], .t [.p 10, .p 12, .d (.str "BadRecipe")], .t [.p 16, .p 18, .d (.str "BadLadder")], .t [.p 22, .p 24, .d (.str "BadPaper")], .t [.p 28, .p 30, .d (.str "BadPieces")], .t [.p 34, .p 36, .d (.str "BadGlue")], .t [.p 38, .p 40, .d (.str "BadWeb")], .t [.p 44, .p 46, .d (.str "BadText")], .t [.p 48, .p 50, .d (.str "BadDeed")], .t [.p 54, .p 56, .d (.str "BadStages")], .t [.p 60, .p 62, .d (.str "BadMacros")], .t [.p 66, .p 68, .d (.str "BadOrders")]]]) rfl rfl)
                    · refine bx_cons ?_
                      apply sx_set 1
                      · exact ex_bin (ex_var 1) (ex_to (s := .p 79) (M2 := [.xd [("place", .d x)], .xo (cs 11) "no such puzzle" (.p 0), .xd [("place", .d x)], .xo (cs 11) "no such puzzle" (.p 2), .xd [("place", .d x)], .xo (cs 20) "no such word" (.p 4), .xd [("place", .d x)], .xo (cs 20) "no such word" (.p 6), .lst [.t [.p 1, .p 3, .d (.str "BadPuzzle")], .t [.p 5, .p 7, .d (.str "BadWord")]], .xd [("place", .d x)], .xo (cs 12) "no such recipe" (.p 9), .xd [("place", .d x)], .xo (cs 12) "no such recipe" (.p 11), .lst [.t [.p 10, .p 12, .d (.str "BadRecipe")]], .lst [.t [.p 1, .p 3, .d (.str "BadPuzzle")], .t [.p 5, .p 7, .d (.str "BadWord")], .t [.p 10, .p 12, .d (.str "BadRecipe")]], .xd [("place", .d x)], .xo (cs 3) "no such ladder" (.p 15), .xd [("place", .d x)], .xo (cs 3) "no such ladder" (.p 17), .lst [.t [.p 16, .p 18, .d (.str "BadLadder")]], .lst [.t [.p 1, .p 3, .d (.str "BadPuzzle")], .t [.p 5, .p 7, .d (.str "BadWord")], .t [.p 10, .p 12, .d (.str "BadRecipe")], .t [.p 16, .p 18, .d (.str "BadLadder")]], .xd [("place", .d x)], .xo (cs 7) "no such paper" (.p 21), .xd [("place", .d x)], .xo (cs 7) "no such paper" (.p 23), .lst [.t [.p 22, .p 24, .d (.str "BadPaper")]], .lst [.t [.p 1, .p 3, .d (.str "BadPuzzle")], .t [.p 5, .p 7, .d (.str "BadWord")], .t [.p 10, .p 12, .d (.str "BadRecipe")], .t [.p 16, .p 18, .d (.str "BadLadder")], .t [.p 22, .p 24, .d (.str "BadPaper")]], .xd [("place", .d x)], .xo (cs 9) "no such pieces" (.p 27), .xd [("place", .d x)], .xo (cs 9) "no such pieces" (.p 29), .lst [.t [.p 28, .p 30, .d (.str "BadPieces")]], .lst [.t [.p 1, .p 3, .d (.str "BadPuzzle")], .t [.p 5, .p 7, .d (.str "BadWord")], .t [.p 10, .p 12, .d (.str "BadRecipe")], .t [.p 16, .p 18, .d (.str "BadLadder")], .t [.p 22, .p 24, .d (.str "BadPaper")], .t [.p 28, .p 30, .d (.str "BadPieces")]], .xd [("place", .d x)], .xo (cs 2) "no such glue" (.p 33), .xd [("place", .d x)], .xo (cs 2) "no such glue" (.p 35), .xd [("place", .d x)], .xo (cs 19) "no such web" (.p 37), .xd [("place", .d x)], .xo (cs 19) "no such web" (.p 39), .lst [.t [.p 34, .p 36, .d (.str "BadGlue")], .t [.p 38, .p 40, .d (.str "BadWeb")]], .lst [.t [.p 1, .p 3, .d (.str "BadPuzzle")], .t [.p 5, .p 7, .d (.str "BadWord")], .t [.p 10, .p 12, .d (.str "BadRecipe")], .t [.p 16, .p 18, .d (.str "BadLadder")], .t [.p 22, .p 24, .d (.str "BadPaper")], .t [.p 28, .p 30, .d (.str "BadPieces")], .t [.p 34, .p 36, .d (.str "BadGlue")], .t [.p 38, .p 40, .d (.str "BadWeb")]], .xd [("place", .d x)], .xo (cs 18) "no such text" (.p 43), .xd [("place", .d x)], .xo (cs 18) "no such text" (.p 45), .xd [("place", .d x)], .xo (cs 1) "no such deed" (.p 47), .xd [("place", .d x)], .xo (cs 1) "no such deed" (.p 49), .lst [.t [.p 44, .p 46, .d (.str "BadText")], .t [.p 48, .p 50, .d (.str "BadDeed")]], .lst [.t [.p 1, .p 3, .d (.str "BadPuzzle")], .t [.p 5, .p 7, .d (.str "BadWord")], .t [.p 10, .p 12, .d (.str "BadRecipe")], .t [.p 16, .p 18, .d (.str "BadLadder")], .t [.p 22, .p 24, .d (.str "BadPaper")], .t [.p 28, .p 30, .d (.str "BadPieces")], .t [.p 34, .p 36, .d (.str "BadGlue")], .t [.p 38, .p 40, .d (.str "BadWeb")], .t [.p 44, .p 46, .d (.str "BadText")], .t [.p 48, .p 50, .d (.str "BadDeed")]], .xd [("place", .d x)], .xo (cs 15) "no such stages" (.p 53), .xd [("place", .d x)], .xo (cs 15) "no such stages" (.p 55), .lst [.t [.p 54, .p 56, .d (.str "BadStages")]], .lst [.t [.p 1, .p 3, .d (.str "BadPuzzle")], .t [.p 5, .p 7, .d (.str "BadWord")], .t [.p 10, .p 12, .d (.str "BadRecipe")], .t [.p 16, .p 18, .d (.str "BadLadder")], .t [.p 22, .p 24, .d (.str "BadPaper")], .t [.p 28, .p 30, .d (.str "BadPieces")], .t [.p 34, .p 36, .d (.str "BadGlue")], .t [.p 38, .p 40, .d (.str "BadWeb")], .t [.p 44, .p 46, .d (.str "BadText")], .t [.p 48, .p 50, .d (.str "BadDeed")], .t [.p 54, .p 56, .d (.str "BadStages")]], .xd [("place", .d x)], .xo (cs 4) "no such macros" (.p 59), .xd [("place", .d x)], .xo (cs 4) "no such macros" (.p 61), .lst [.t [.p 60, .p 62, .d (.str "BadMacros")]], .lst [.t [.p 1, .p 3, .d (.str "BadPuzzle")], .t [.p 5, .p 7, .d (.str "BadWord")], .t [.p 10, .p 12, .d (.str "BadRecipe")], .t [.p 16, .p 18, .d (.str "BadLadder")], .t [.p 22, .p 24, .d (.str "BadPaper")], .t [.p 28, .p 30, .d (.str "BadPieces")], .t [.p 34, .p 36, .d (.str "BadGlue")], .t [.p 38, .p 40, .d (.str "BadWeb")], .t [.p 44, .p 46, .d (.str "BadText")], .t [.p 48, .p 50, .d (.str "BadDeed")], .t [.p 54, .p 56, .d (.str "BadStages")], .t [.p 60, .p 62, .d (.str "BadMacros")]], .xd [("place", .d x)], .xo (cs 6) "no such orders" (.p 65), .xd [("place", .d x)], .xo (cs 6) "no such orders" (.p 67), .lst [.t [.p 66, .p 68, .d (.str "BadOrders")]], .lst [.t [.p 1, .p 3, .d (.str "BadPuzzle")], .t [.p 5, .p 7, .d (.str "BadWord")], .t [.p 10, .p 12, .d (.str "BadRecipe")], .t [.p 16, .p 18, .d (.str "BadLadder")], .t [.p 22, .p 24, .d (.str "BadPaper")], .t [.p 28, .p 30, .d (.str "BadPieces")], .t [.p 34, .p 36, .d (.str "BadGlue")], .t [.p 38, .p 40, .d (.str "BadWeb")], .t [.p 44, .p 46, .d (.str "BadText")], .t [.p 48, .p 50, .d (.str "BadDeed")], .t [.p 54, .p 56, .d (.str "BadStages")], .t [.p 60, .p 62, .d (.str "BadMacros")], .t [.p 66, .p 68, .d (.str "BadOrders")]], .xd [("place", .d x)], .xo (cs 14) "no such row" (.p 71), .xd [("place", .d x)], .xo (cs 14) "no such row" (.p 73), .xd [("place", .d x)], .xo (cs 17) "no such task" (.p 75), .xd [("place", .d x)], .xo (cs 17) "no such task" (.p 77), .lst [.t [.p 72, .p 74, .d (.str "BadRow")], .t [.p 76, .p 78, .d (.str "BadTask")]]]) (ex_list (ea_cons (ex_to (s := .t [.p 72, .p 74, .d (.str "BadRow")]) (M2 := [.xd [("place", .d x)], .xo (cs 11) "no such puzzle" (.p 0), .xd [("place", .d x)], .xo (cs 11) "no such puzzle" (.p 2), .xd [("place", .d x)], .xo (cs 20) "no such word" (.p 4), .xd [("place", .d x)], .xo (cs 20) "no such word" (.p 6), .lst [.t [.p 1, .p 3, .d (.str "BadPuzzle")], .t [.p 5, .p 7, .d (.str "BadWord")]], .xd [("place", .d x)], .xo (cs 12) "no such recipe" (.p 9), .xd [("place", .d x)], .xo (cs 12) "no such recipe" (.p 11), .lst [.t [.p 10, .p 12, .d (.str "BadRecipe")]], .lst [.t [.p 1, .p 3, .d (.str "BadPuzzle")], .t [.p 5, .p 7, .d (.str "BadWord")], .t [.p 10, .p 12, .d (.str "BadRecipe")]], .xd [("place", .d x)], .xo (cs 3) "no such ladder" (.p 15), .xd [("place", .d x)], .xo (cs 3) "no such ladder" (.p 17), .lst [.t [.p 16, .p 18, .d (.str "BadLadder")]], .lst [.t [.p 1, .p 3, .d (.str "BadPuzzle")], .t [.p 5, .p 7, .d (.str "BadWord")], .t [.p 10, .p 12, .d (.str "BadRecipe")], .t [.p 16, .p 18, .d (.str "BadLadder")]], .xd [("place", .d x)], .xo (cs 7) "no such paper" (.p 21), .xd [("place", .d x)], .xo (cs 7) "no such paper" (.p 23), .lst [.t [.p 22, .p 24, .d (.str "BadPaper")]], .lst [.t [.p 1, .p 3, .d (.str "BadPuzzle")], .t [.p 5, .p 7, .d (.str "BadWord")], .t [.p 10, .p 12, .d (.str "BadRecipe")], .t [.p 16, .p 18, .d (.str "BadLadder")], .t [.p 22, .p 24, .d (.str "BadPaper")]], .xd [("place", .d x)], .xo (cs 9) "no such pieces" (.p 27), .xd [("place", .d x)], .xo (cs 9) "no such pieces" (.p 29), .lst [.t [.p 28, .p 30, .d (.str "BadPieces")]], .lst [.t [.p 1, .p 3, .d (.str "BadPuzzle")], .t [.p 5, .p 7, .d (.str "BadWord")], .t [.p 10, .p 12, .d (.str "BadRecipe")], .t [.p 16, .p 18, .d (.str "BadLadder")], .t [.p 22, .p 24, .d (.str "BadPaper")], .t [.p 28, .p 30, .d (.str "BadPieces")]], .xd [("place", .d x)], .xo (cs 2) "no such glue" (.p 33), .xd [("place", .d x)], .xo (cs 2) "no such glue" (.p 35), .xd [("place", .d x)], .xo (cs 19) "no such web" (.p 37), .xd [("place", .d x)], .xo (cs 19) "no such web" (.p 39), .lst [.t [.p 34, .p 36, .d (.str "BadGlue")], .t [.p 38, .p 40, .d (.str "BadWeb")]], .lst [.t [.p 1, .p 3, .d (.str "BadPuzzle")], .t [.p 5, .p 7, .d (.str "BadWord")], .t [.p 10, .p 12, .d (.str "BadRecipe")], .t [.p 16, .p 18, .d (.str "BadLadder")], .t [.p 22, .p 24, .d (.str "BadPaper")], .t [.p 28, .p 30, .d (.str "BadPieces")], .t [.p 34, .p 36, .d (.str "BadGlue")], .t [.p 38, .p 40, .d (.str "BadWeb")]], .xd [("place", .d x)], .xo (cs 18) "no such text" (.p 43), .xd [("place", .d x)], .xo (cs 18) "no such text" (.p 45), .xd [("place", .d x)], .xo (cs 1) "no such deed" (.p 47), .xd [("place", .d x)], .xo (cs 1) "no such deed" (.p 49), .lst [.t [.p 44, .p 46, .d (.str "BadText")], .t [.p 48, .p 50, .d (.str "BadDeed")]], .lst [.t [.p 1, .p 3, .d (.str "BadPuzzle")], .t [.p 5, .p 7, .d (.str "BadWord")], .t [.p 10, .p 12, .d (.str "BadRecipe")], .t [.p 16, .p 18, .d (.str "BadLadder")], .t [.p 22, .p 24, .d (.str "BadPaper")], .t [.p 28, .p 30, .d (.str "BadPieces")], .t [.p 34, .p 36, .d (.str "BadGlue")], .t [.p 38, .p 40, .d (.str "BadWeb")], .t [.p 44, .p 46, .d (.str "BadText")], .t [.p 48, .p 50, .d (.str "BadDeed")]], .xd [("place", .d x)], .xo (cs 15) "no such stages" (.p 53), .xd [("place", .d x)], .xo (cs 15) "no such stages" (.p 55), .lst [.t [.p 54, .p 56, .d (.str "BadStages")]], .lst [.t [.p 1, .p 3, .d (.str "BadPuzzle")], .t [.p 5, .p 7, .d (.str "BadWord")], .t [.p 10, .p 12, .d (.str "BadRecipe")], .t [.p 16, .p 18, .d (.str "BadLadder")], .t [.p 22, .p 24, .d (.str "BadPaper")], .t [.p 28, .p 30, .d (.str "BadPieces")], .t [.p 34, .p 36, .d (.str "BadGlue")], .t [.p 38, .p 40, .d (.str "BadWeb")], .t [.p 44, .p 46, .d (.str "BadText")], .t [.p 48, .p 50, .d (.str "BadDeed")], .t [.p 54, .p 56, .d (.str "BadStages")]], .xd [("place", .d x)], .xo (cs 4) "no such macros" (.p 59), .xd [("place", .d x)], .xo (cs 4) "no such macros" (.p 61), .lst [.t [.p 60, .p 62, .d (.str "BadMacros")]], .lst [.t [.p 1, .p 3, .d (.str "BadPuzzle")], .t [.p 5, .p 7, .d (.str "BadWord")], .t [.p 10, .p 12, .d (.str "BadRecipe")], .t [.p 16, .p 18, .d (.str "BadLadder")], .t [.p 22, .p 24, .d (.str "BadPaper")], .t [.p 28, .p 30, .d (.str "BadPieces")], .t [.p 34, .p 36, .d (.str "BadGlue")], .t [.p 38, .p 40, .d (.str "BadWeb")], .t [.p 44, .p 46, .d (.str "BadText")], .t [.p 48, .p 50, .d (.str "BadDeed")], .t [.p 54, .p 56, .d (.str "BadStages")], .t [.p 60, .p 62, .d (.str "BadMacros")]], .xd [("place", .d x)], .xo (cs 6) "no such orders" (.p 65), .xd [("place", .d x)], .xo (cs 6) "no such orders" (.p 67), .lst [.t [.p 66, .p 68, .d (.str "BadOrders")]], .lst [.t [.p 1, .p 3, .d (.str "BadPuzzle")], .t [.p 5, .p 7, .d (.str "BadWord")], .t [.p 10, .p 12, .d (.str "BadRecipe")], .t [.p 16, .p 18, .d (.str "BadLadder")], .t [.p 22, .p 24, .d (.str "BadPaper")], .t [.p 28, .p 30, .d (.str "BadPieces")], .t [.p 34, .p 36, .d (.str "BadGlue")], .t [.p 38, .p 40, .d (.str "BadWeb")], .t [.p 44, .p 46, .d (.str "BadText")], .t [.p 48, .p 50, .d (.str "BadDeed")], .t [.p 54, .p 56, .d (.str "BadStages")], .t [.p 60, .p 62, .d (.str "BadMacros")], .t [.p 66, .p 68, .d (.str "BadOrders")]], .xd [("place", .d x)], .xo (cs 14) "no such row" (.p 71), .xd [("place", .d x)], .xo (cs 14) "no such row" (.p 73)]) (ex_tup (ea_cons (ex_to (s := .p 72) (M2 := [.xd [("place", .d x)], .xo (cs 11) "no such puzzle" (.p 0), .xd [("place", .d x)], .xo (cs 11) "no such puzzle" (.p 2), .xd [("place", .d x)], .xo (cs 20) "no such word" (.p 4), .xd [("place", .d x)], .xo (cs 20) "no such word" (.p 6), .lst [.t [.p 1, .p 3, .d (.str "BadPuzzle")], .t [.p 5, .p 7, .d (.str "BadWord")]], .xd [("place", .d x)], .xo (cs 12) "no such recipe" (.p 9), .xd [("place", .d x)], .xo (cs 12) "no such recipe" (.p 11), .lst [.t [.p 10, .p 12, .d (.str "BadRecipe")]], .lst [.t [.p 1, .p 3, .d (.str "BadPuzzle")], .t [.p 5, .p 7, .d (.str "BadWord")], .t [.p 10, .p 12, .d (.str "BadRecipe")]], .xd [("place", .d x)], .xo (cs 3) "no such ladder" (.p 15), .xd [("place", .d x)], .xo (cs 3) "no such ladder" (.p 17), .lst [.t [.p 16, .p 18, .d (.str "BadLadder")]], .lst [.t [.p 1, .p 3, .d (.str "BadPuzzle")], .t [.p 5, .p 7, .d (.str "BadWord")], .t [.p 10, .p 12, .d (.str "BadRecipe")], .t [.p 16, .p 18, .d (.str "BadLadder")]], .xd [("place", .d x)], .xo (cs 7) "no such paper" (.p 21), .xd [("place", .d x)], .xo (cs 7) "no such paper" (.p 23), .lst [.t [.p 22, .p 24, .d (.str "BadPaper")]], .lst [.t [.p 1, .p 3, .d (.str "BadPuzzle")], .t [.p 5, .p 7, .d (.str "BadWord")], .t [.p 10, .p 12, .d (.str "BadRecipe")], .t [.p 16, .p 18, .d (.str "BadLadder")], .t [.p 22, .p 24, .d (.str "BadPaper")]], .xd [("place", .d x)], .xo (cs 9) "no such pieces" (.p 27), .xd [("place", .d x)], .xo (cs 9) "no such pieces" (.p 29), .lst [.t [.p 28, .p 30, .d (.str "BadPieces")]], .lst [.t [.p 1, .p 3, .d (.str "BadPuzzle")], .t [.p 5, .p 7, .d (.str "BadWord")], .t [.p 10, .p 12, .d (.str "BadRecipe")], .t [.p 16, .p 18, .d (.str "BadLadder")], .t [.p 22, .p 24, .d (.str "BadPaper")], .t [.p 28, .p 30, .d (.str "BadPieces")]], .xd [("place", .d x)], .xo (cs 2) "no such glue" (.p 33), .xd [("place", .d x)], .xo (cs 2) "no such glue" (.p 35), .xd [("place", .d x)], .xo (cs 19) "no such web" (.p 37), .xd [("place", .d x)], .xo (cs 19) "no such web" (.p 39), .lst [.t [.p 34, .p 36, .d (.str "BadGlue")], .t [.p 38, .p 40, .d (.str "BadWeb")]], .lst [.t [.p 1, .p 3, .d (.str "BadPuzzle")], .t [.p 5, .p 7, .d (.str "BadWord")], .t [.p 10, .p 12, .d (.str "BadRecipe")], .t [.p 16, .p 18, .d (.str "BadLadder")], .t [.p 22, .p 24, .d (.str "BadPaper")], .t [.p 28, .p 30, .d (.str "BadPieces")], .t [.p 34, .p 36, .d (.str "BadGlue")], .t [.p 38, .p 40, .d (.str "BadWeb")]], .xd [("place", .d x)], .xo (cs 18) "no such text" (.p 43), .xd [("place", .d x)], .xo (cs 18) "no such text" (.p 45), .xd [("place", .d x)], .xo (cs 1) "no such deed" (.p 47), .xd [("place", .d x)], .xo (cs 1) "no such deed" (.p 49), .lst [.t [.p 44, .p 46, .d (.str "BadText")], .t [.p 48, .p 50, .d (.str "BadDeed")]], .lst [.t [.p 1, .p 3, .d (.str "BadPuzzle")], .t [.p 5, .p 7, .d (.str "BadWord")], .t [.p 10, .p 12, .d (.str "BadRecipe")], .t [.p 16, .p 18, .d (.str "BadLadder")], .t [.p 22, .p 24, .d (.str "BadPaper")], .t [.p 28, .p 30, .d (.str "BadPieces")], .t [.p 34, .p 36, .d (.str "BadGlue")], .t [.p 38, .p 40, .d (.str "BadWeb")], .t [.p 44, .p 46, .d (.str "BadText")], .t [.p 48, .p 50, .d (.str "BadDeed")]], .xd [("place", .d x)], .xo (cs 15) "no such stages" (.p 53), .xd [("place", .d x)], .xo (cs 15) "no such stages" (.p 55), .lst [.t [.p 54, .p 56, .d (.str "BadStages")]], .lst [.t [.p 1, .p 3, .d (.str "BadPuzzle")], .t [.p 5, .p 7, .d (.str "BadWord")], .t [.p 10, .p 12, .d (.str "BadRecipe")], .t [.p 16, .p 18, .d (.str "BadLadder")], .t [.p 22, .p 24, .d (.str "BadPaper")], .t [.p 28, .p 30, .d (.str "BadPieces")], .t [.p 34, .p 36, .d (.str "BadGlue")], .t [.p 38, .p 40, .d (.str "BadWeb")], .t [.p 44, .p 46, .d (.str "BadText")], .t [.p 48, .p 50, .d (.str "BadDeed")], .t [.p 54, .p 56, .d (.str "BadStages")]], .xd [("place", .d x)], .xo (cs 4) "no such macros" (.p 59), .xd [("place", .d x)], .xo (cs 4) "no such macros" (.p 61), .lst [.t [.p 60, .p 62, .d (.str "BadMacros")]], .lst [.t [.p 1, .p 3, .d (.str "BadPuzzle")], .t [.p 5, .p 7, .d (.str "BadWord")], .t [.p 10, .p 12, .d (.str "BadRecipe")], .t [.p 16, .p 18, .d (.str "BadLadder")], .t [.p 22, .p 24, .d (.str "BadPaper")], .t [.p 28, .p 30, .d (.str "BadPieces")], .t [.p 34, .p 36, .d (.str "BadGlue")], .t [.p 38, .p 40, .d (.str "BadWeb")], .t [.p 44, .p 46, .d (.str "BadText")], .t [.p 48, .p 50, .d (.str "BadDeed")], .t [.p 54, .p 56, .d (.str "BadStages")], .t [.p 60, .p 62, .d (.str "BadMacros")]], .xd [("place", .d x)], .xo (cs 6) "no such orders" (.p 65), .xd [("place", .d x)], .xo (cs 6) "no such orders" (.p 67), .lst [.t [.p 66, .p 68, .d (.str "BadOrders")]], .lst [.t [.p 1, .p 3, .d (.str "BadPuzzle")], .t [.p 5, .p 7, .d (.str "BadWord")], .t [.p 10, .p 12, .d (.str "BadRecipe")], .t [.p 16, .p 18, .d (.str "BadLadder")], .t [.p 22, .p 24, .d (.str "BadPaper")], .t [.p 28, .p 30, .d (.str "BadPieces")], .t [.p 34, .p 36, .d (.str "BadGlue")], .t [.p 38, .p 40, .d (.str "BadWeb")], .t [.p 44, .p 46, .d (.str "BadText")], .t [.p 48, .p 50, .d (.str "BadDeed")], .t [.p 54, .p 56, .d (.str "BadStages")], .t [.p 60, .p 62, .d (.str "BadMacros")], .t [.p 66, .p 68, .d (.str "BadOrders")]], .xd [("place", .d x)], .xo (cs 14) "no such row" (.p 71)]) (ex_mkx w14 (ex_var 0)) rfl rfl) (ea_cons (ex_to (s := .p 74) (M2 := [.xd [("place", .d x)], .xo (cs 11) "no such puzzle" (.p 0), .xd [("place", .d x)], .xo (cs 11) "no such puzzle" (.p 2), .xd [("place", .d x)], .xo (cs 20) "no such word" (.p 4), .xd [("place", .d x)], .xo (cs 20) "no such word" (.p 6), .lst [.t [.p 1, .p 3, .d (.str "BadPuzzle")], .t [.p 5, .p 7, .d (.str "BadWord")]], .xd [("place", .d x)], .xo (cs 12) "no such recipe" (.p 9), .xd [("place", .d x)], .xo (cs 12) "no such recipe" (.p 11), .lst [.t [.p 10, .p 12, .d (.str "BadRecipe")]], .lst [.t [.p 1, .p 3, .d (.str "BadPuzzle")], .t [.p 5, .p 7, .d (.str "BadWord")], .t [.p 10, .p 12, .d (.str "BadRecipe")]], .xd [("place", .d x)], .xo (cs 3) "no such ladder" (.p 15), .xd [("place", .d x)], .xo (cs 3) "no such ladder" (.p 17), .lst [.t [.p 16, .p 18, .d (.str "BadLadder")]], .lst [.t [.p 1, .p 3, .d (.str "BadPuzzle")], .t [.p 5, .p 7, .d (.str "BadWord")], .t [.p 10, .p 12, .d (.str "BadRecipe")], .t [.p 16, .p 18, .d (.str "BadLadder")]], .xd [("place", .d x)], .xo (cs 7) "no such paper" (.p 21), .xd [("place", .d x)], .xo (cs 7) "no such paper" (.p 23), .lst [.t [.p 22, .p 24, .d (.str "BadPaper")]], .lst [.t [.p 1, .p 3, .d (.str "BadPuzzle")], .t [.p 5, .p 7, .d (.str "BadWord")], .t [.p 10, .p 12, .d (.str "BadRecipe")], .t [.p 16, .p 18, .d (.str "BadLadder")], .t [.p 22, .p 24, .d (.str "BadPaper")]], .xd [("place", .d x)], .xo (cs 9) "no such pieces" (.p 27), .xd [("place", .d x)], .xo (cs 9) "no such pieces" (.p 29), .lst [.t [.p 28, .p 30, .d (.str "BadPieces")]], .lst [.t [.p 1, .p 3, .d (.str "BadPuzzle")], .t [.p 5, .p 7, .d (.str "BadWord")], .t [.p 10, .p 12, .d (.str "BadRecipe")], .t [.p 16, .p 18, .d (.str "BadLadder")], .t [.p 22, .p 24, .d (.str "BadPaper")], .t [.p 28, .p 30, .d (.str "BadPieces")]], .xd [("place", .d x)], .xo (cs 2) "no such glue" (.p 33), .xd [("place", .d x)], .xo (cs 2) "no such glue" (.p 35), .xd [("place", .d x)], .xo (cs 19) "no such web" (.p 37), .xd [("place", .d x)], .xo (cs 19) "no such web" (.p 39), .lst [.t [.p 34, .p 36, .d (.str "BadGlue")], .t [.p 38, .p 40, .d (.str "BadWeb")]], .lst [.t [.p 1, .p 3, .d (.str "BadPuzzle")], .t [.p 5, .p 7, .d (.str "BadWord")], .t [.p 10, .p 12, .d (.str "BadRecipe")], .t [.p 16, .p 18, .d (.str "BadLadder")], .t [.p 22, .p 24, .d (.str "BadPaper")], .t [.p 28, .p 30, .d (.str "BadPieces")], .t [.p 34, .p 36, .d (.str "BadGlue")], .t [.p 38, .p 40, .d (.str "BadWeb")]], .xd [("place", .d x)], .xo (cs 18) "no such text" (.p 43), .xd [("place", .d x)], .xo (cs 18) "no such text" (.p 45), .xd [("place", .d x)], .xo (cs 1) "no such deed" (.p 47), .xd [("place", .d x)], .xo (cs 1) "no such deed" (.p 49), .lst [.t [.p 44, .p 46, .d (.str "BadText")], .t [.p 48, .p 50, .d (.str "BadDeed")]], .lst [.t [.p 1, .p 3, .d (.str "BadPuzzle")], .t [.p 5, .p 7, .d (.str "BadWord")], .t [.p 10, .p 12, .d (.str "BadRecipe")], .t [.p 16, .p 18, .d (.str "BadLadder")], .t [.p 22, .p 24, .d (.str "BadPaper")], .t [.p 28, .p 30, .d (.str "BadPieces")], .t [.p 34, .p 36, .d (.str "BadGlue")], .t [.p 38, .p 40, .d (.str "BadWeb")], .t [.p 44, .p 46, .d (.str "BadText")], .t [.p 48, .p 50, .d (.str "BadDeed")]], .xd [("place", .d x)], .xo (cs 15) "no such stages" (.p 53), .xd [("place", .d x)], .xo (cs 15) "no such stages" (.p 55), .lst [.t [.p 54, .p 56, .d (.str "BadStages")]], .lst [.t [.p 1, .p 3, .d (.str "BadPuzzle")], .t [.p 5, .p 7, .d (.str "BadWord")], .t [.p 10, .p 12, .d (.str "BadRecipe")], .t [.p 16, .p 18, .d (.str "BadLadder")], .t [.p 22, .p 24, .d (.str "BadPaper")], .t [.p 28, .p 30, .d (.str "BadPieces")], .t [.p 34, .p 36, .d (.str "BadGlue")], .t [.p 38, .p 40, .d (.str "BadWeb")], .t [.p 44, .p 46, .d (.str "BadText")], .t [.p 48, .p 50, .d (.str "BadDeed")], .t [.p 54, .p 56, .d (.str "BadStages")]], .xd [("place", .d x)], .xo (cs 4) "no such macros" (.p 59), .xd [("place", .d x)], .xo (cs 4) "no such macros" (.p 61), .lst [.t [.p 60, .p 62, .d (.str "BadMacros")]], .lst [.t [.p 1, .p 3, .d (.str "BadPuzzle")], .t [.p 5, .p 7, .d (.str "BadWord")], .t [.p 10, .p 12, .d (.str "BadRecipe")], .t [.p 16, .p 18, .d (.str "BadLadder")], .t [.p 22, .p 24, .d (.str "BadPaper")], .t [.p 28, .p 30, .d (.str "BadPieces")], .t [.p 34, .p 36, .d (.str "BadGlue")], .t [.p 38, .p 40, .d (.str "BadWeb")], .t [.p 44, .p 46, .d (.str "BadText")], .t [.p 48, .p 50, .d (.str "BadDeed")], .t [.p 54, .p 56, .d (.str "BadStages")], .t [.p 60, .p 62, .d (.str "BadMacros")]], .xd [("place", .d x)], .xo (cs 6) "no such orders" (.p 65), .xd [("place", .d x)], .xo (cs 6) "no such orders" (.p 67), .lst [.t [.p 66, .p 68, .d (.str "BadOrders")]], .lst [.t [.p 1, .p 3, .d (.str "BadPuzzle")], .t [.p 5, .p 7, .d (.str "BadWord")], .t [.p 10, .p 12, .d (.str "BadRecipe")], .t [.p 16, .p 18, .d (.str "BadLadder")], .t [.p 22, .p 24, .d (.str "BadPaper")], .t [.p 28, .p 30, .d (.str "BadPieces")], .t [.p 34, .p 36, .d (.str "BadGlue")], .t [.p 38, .p 40, .d (.str "BadWeb")], .t [.p 44, .p 46, .d (.str "BadText")], .t [.p 48, .p 50, .d (.str "BadDeed")], .t [.p 54, .p 56, .d (.str "BadStages")], .t [.p 60, .p 62, .d (.str "BadMacros")], .t [.p 66, .p 68, .d (.str "BadOrders")]], .xd [("place", .d x)], .xo (cs 14) "no such row" (.p 71), .xd [("place", .d x)], .xo (cs 14) "no such row" (.p 73)]) (ex_mkxK w14 (ex_var 0)) rfl rfl) (ea_cons ex_str ea_nil))) (Nat.le_of_ble_eq_true rfl)) rfl rfl) (ea_cons (ex_to (s := .t [.p 76, .p 78, .d (.str "BadTask")]) (M2 := [.xd [("place", .d x)], .xo (cs 11) "no such puzzle" (.p 0), .xd [("place", .d x)], .xo (cs 11) "no such puzzle" (.p 2), .xd [("place", .d x)], .xo (cs 20) "no such word" (.p 4), .xd [("place", .d x)], .xo (cs 20) "no such word" (.p 6), .lst [.t [.p 1, .p 3, .d (.str "BadPuzzle")], .t [.p 5, .p 7, .d (.str "BadWord")]], .xd [("place", .d x)], .xo (cs 12) "no such recipe" (.p 9), .xd [("place", .d x)], .xo (cs 12) "no such recipe" (.p 11), .lst [.t [.p 10, .p 12, .d (.str "BadRecipe")]], .lst [.t [.p 1, .p 3, .d (.str "BadPuzzle")], .t [.p 5, .p 7, .d (.str "BadWord")], .t [.p 10, .p 12, .d (.str "BadRecipe")]], .xd [("place", .d x)], .xo (cs 3) "no such ladder" (.p 15), .xd [("place", .d x)], .xo (cs 3) "no such ladder" (.p 17), .lst [.t [.p 16, .p 18, .d (.str "BadLadder")]], .lst [.t [.p 1, .p 3, .d (.str "BadPuzzle")], .t [.p 5, .p 7, .d (.str "BadWord")], .t [.p 10, .p 12, .d (.str "BadRecipe")], .t [.p 16, .p 18, .d (.str "BadLadder")]], .xd [("place", .d x)], .xo (cs 7) "no such paper" (.p 21), .xd [("place", .d x)], .xo (cs 7) "no such paper" (.p 23), .lst [.t [.p 22, .p 24, .d (.str "BadPaper")]], .lst [.t [.p 1, .p 3, .d (.str "BadPuzzle")], .t [.p 5, .p 7, .d (.str "BadWord")], .t [.p 10, .p 12, .d (.str "BadRecipe")], .t [.p 16, .p 18, .d (.str "BadLadder")], .t [.p 22, .p 24, .d (.str "BadPaper")]], .xd [("place", .d x)], .xo (cs 9) "no such pieces" (.p 27), .xd [("place", .d x)], .xo (cs 9) "no such pieces" (.p 29), .lst [.t [.p 28, .p 30, .d (.str "BadPieces")]], .lst [.t [.p 1, .p 3, .d (.str "BadPuzzle")], .t [.p 5, .p 7, .d (.str "BadWord")], .t [.p 10, .p 12, .d (.str "BadRecipe")], .t [.p 16, .p 18, .d (.str "BadLadder")], .t [.p 22, .p 24, .d (.str "BadPaper")], .t [.p 28, .p 30, .d (.str "BadPieces")]], .xd [("place", .d x)], .xo (cs 2) "no such glue" (.p 33), .xd [("place", .d x)], .xo (cs 2) "no such glue" (.p 35), .xd [("place", .d x)], .xo (cs 19) "no such web" (.p 37), .xd [("place", .d x)], .xo (cs 19) "no such web" (.p 39), .lst [.t [.p 34, .p 36, .d (.str "BadGlue")], .t [.p 38, .p 40, .d (.str "BadWeb")]], .lst [.t [.p 1, .p 3, .d (.str "BadPuzzle")], .t [.p 5, .p 7, .d (.str "BadWord")], .t [.p 10, .p 12, .d (.str "BadRecipe")], .t [.p 16, .p 18, .d (.str "BadLadder")], .t [.p 22, .p 24, .d (.str "BadPaper")], .t [.p 28, .p 30, .d (.str "BadPieces")], .t [.p 34, .p 36, .d (.str "BadGlue")], .t [.p 38, .p 40, .d (.str "BadWeb")]], .xd [("place", .d x)], .xo (cs 18) "no such text" (.p 43), .xd [("place", .d x)], .xo (cs 18) "no such text" (.p 45), .xd [("place", .d x)], .xo (cs 1) "no such deed" (.p 47), .xd [("place", .d x)], .xo (cs 1) "no such deed" (.p 49), .lst [.t [.p 44, .p 46, .d (.str "BadText")], .t [.p 48, .p 50, .d (.str "BadDeed")]], .lst [.t [.p 1, .p 3, .d (.str "BadPuzzle")], .t [.p 5, .p 7, .d (.str "BadWord")], .t [.p 10, .p 12, .d (.str "BadRecipe")], .t [.p 16, .p 18, .d (.str "BadLadder")], .t [.p 22, .p 24, .d (.str "BadPaper")], .t [.p 28, .p 30, .d (.str "BadPieces")], .t [.p 34, .p 36, .d (.str "BadGlue")], .t [.p 38, .p 40, .d (.str "BadWeb")], .t [.p 44, .p 46, .d (.str "BadText")], .t [.p 48, .p 50, .d (.str "BadDeed")]], .xd [("place", .d x)], .xo (cs 15) "no such stages" (.p 53), .xd [("place", .d x)], .xo (cs 15) "no such stages" (.p 55), .lst [.t [.p 54, .p 56, .d (.str "BadStages")]], .lst [.t [.p 1, .p 3, .d (.str "BadPuzzle")], .t [.p 5, .p 7, .d (.str "BadWord")], .t [.p 10, .p 12, .d (.str "BadRecipe")], .t [.p 16, .p 18, .d (.str "BadLadder")], .t [.p 22, .p 24, .d (.str "BadPaper")], .t [.p 28, .p 30, .d (.str "BadPieces")], .t [.p 34, .p 36, .d (.str "BadGlue")], .t [.p 38, .p 40, .d (.str "BadWeb")], .t [.p 44, .p 46, .d (.str "BadText")], .t [.p 48, .p 50, .d (.str "BadDeed")], .t [.p 54, .p 56, .d (.str "BadStages")]], .xd [("place", .d x)], .xo (cs 4) "no such macros" (.p 59), .xd [("place", .d x)], .xo (cs 4) "no such macros" (.p 61), .lst [.t [.p 60, .p 62, .d (.str "BadMacros")]], .lst [.t [.p 1, .p 3, .d (.str "BadPuzzle")], .t [.p 5, .p 7, .d (.str "BadWord")], .t [.p 10, .p 12, .d (.str "BadRecipe")], .t [.p 16, .p 18, .d (.str "BadLadder")], .t [.p 22, .p 24, .d (.str "BadPaper")], .t [.p 28, .p 30, .d (.str "BadPieces")], .t [.p 34, .p 36, .d (.str "BadGlue")], .t [.p 38, .p 40, .d (.str "BadWeb")], .t [.p 44, .p 46, .d (.str "BadText")], .t [.p 48, .p 50, .d (.str "BadDeed")], .t [.p 54, .p 56, .d (.str "BadStages")], .t [.p 60, .p 62, .d (.str "BadMacros")]], .xd [("place", .d x)], .xo (cs 6) "no such orders" (.p 65), .xd [("place", .d x)], .xo (cs 6) "no such orders" (.p 67), .lst [.t [.p 66, .p 68, .d (.str "BadOrders")]], .lst [.t [.p 1, .p 3, .d (.str "BadPuzzle")], .t [.p 5, .p 7, .d (.str "BadWord")], .t [.p 10, .p 12, .d (.str "BadRecipe")], .t [.p 16, .p 18, .d (.str "BadLadder")], .t [.p 22, .p 24, .d (.str "BadPaper")], .t [.p 28, .p 30, .d (.str "BadPieces")], .t [.p 34, .p 36, .d (.str "BadGlue")], .t [.p 38, .p 40, .d (.str "BadWeb")], .t [.p 44, .p 46, .d (.str "BadText")], .t [.p 48, .p 50, .d (.str "BadDeed")], .t [.p 54, .p 56, .d (.str "BadStages")], .t [.p 60, .p 62, .d (.str "BadMacros")], .t [.p 66, .p 68, .d (.str "BadOrders")]], .xd [("place", .d x)], .xo (cs 14) "no such row" (.p 71), .xd [("place", .d x)], .xo (cs 14) "no such row" (.p 73), .xd [("place", .d x)], .xo (cs 17) "no such task" (.p 75), .xd [("place", .d x)], .xo (cs 17) "no such task" (.p 77)]) (ex_tup (ea_cons (ex_to (s := .p 76) (M2 := [.xd [("place", .d x)], .xo (cs 11) "no such puzzle" (.p 0), .xd [("place", .d x)], .xo (cs 11) "no such puzzle" (.p 2), .xd [("place", .d x)], .xo (cs 20) "no such word" (.p 4), .xd [("place", .d x)], .xo (cs 20) "no such word" (.p 6), .lst [.t [.p 1, .p 3, .d (.str "BadPuzzle")], .t [.p 5, .p 7, .d (.str "BadWord")]], .xd [("place", .d x)], .xo (cs 12) "no such recipe" (.p 9), .xd [("place", .d x)], .xo (cs 12) "no such recipe" (.p 11), .lst [.t [.p 10, .p 12, .d (.str "BadRecipe")]], .lst [.t [.p 1, .p 3, .d (.str "BadPuzzle")], .t [.p 5, .p 7, .d (.str "BadWord")], .t [.p 10, .p 12, .d (.str "BadRecipe")]], .xd [("place", .d x)], .xo (cs 3) "no such ladder" (.p 15), .xd [("place", .d x)], .xo (cs 3) "no such ladder" (.p 17), .lst [.t [.p 16, .p 18, .d (.str "BadLadder")]], .lst [.t [.p 1, .p 3, .d (.str "BadPuzzle")], .t [.p 5, .p 7, .d (.str "BadWord")], .t [.p 10, .p 12, .d (.str "BadRecipe")], .t [.p 16, .p 18, .d (.str "BadLadder")]], .xd [("place", .d x)], .xo (cs 7) "no such paper" (.p 21), .xd [("place", .d x)], .xo (cs 7) "no such paper" (.p 23), .lst [.t [.p 22, .p 24, .d (.str "BadPaper")]], .lst [.t [.p 1, .p 3, .d (.str "BadPuzzle")], .t [.p 5, .p 7, .d (.str "BadWord")], .t [.p 10, .p 12, .d (.str "BadRecipe")], .t [.p 16, .p 18, .d (.str "BadLadder")], .t [.p 22, .p 24, .d (.str "BadPaper")]], .xd [("place", .d x)], .xo (cs 9) "no such pieces" (.p 27), .xd [("place", .d x)], .xo (cs 9) "no such pieces" (.p 29), .lst [.t [.p 28, .p 30, .d (.str "BadPieces")]], .lst [.t [.p 1, .p 3, .d (.str "BadPuzzle")], .t [.p 5, .p 7, .d (.str "BadWord")], .t [.p 10, .p 12, .d (.str "BadRecipe")], .t [.p 16, .p 18, .d (.str "BadLadder")], .t [.p 22, .p 24, .d (.str "BadPaper")], .t [.p 28, .p 30, .d (.str "BadPieces")]], .xd [("place", .d x)], .xo (cs 2) "no such glue" (.p 33), .xd [("place", .d x)], .xo (cs 2) "no such glue" (.p 35), .xd [("place", .d x)], .xo (cs 19) "no such web" (.p 37), .xd [("place", .d x)], .xo (cs 19) "no such web" (.p 39), .lst [.t [.p 34, .p 36, .d (.str "BadGlue")], .t [.p 38, .p 40, .d (.str "BadWeb")]], .lst [.t [.p 1, .p 3, .d (.str "BadPuzzle")], .t [.p 5, .p 7, .d (.str "BadWord")], .t [.p 10, .p 12, .d (.str "BadRecipe")], .t [.p 16, .p 18, .d (.str "BadLadder")], .t [.p 22, .p 24, .d (.str "BadPaper")], .t [.p 28, .p 30, .d (.str "BadPieces")], .t [.p 34, .p 36, .d (.str "BadGlue")], .t [.p 38, .p 40, .d (.str "BadWeb")]], .xd [("place", .d x)], .xo (cs 18) "no such text" (.p 43), .xd [("place", .d x)], .xo (cs 18) "no such text" (.p 45), .xd [("place", .d x)], .xo (cs 1) "no such deed" (.p 47), .xd [("place", .d x)], .xo (cs 1) "no such deed" (.p 49), .lst [.t [.p 44, .p 46, .d (.str "BadText")], .t [.p 48, .p 50, .d (.str "BadDeed")]], .lst [.t [.p 1, .p 3, .d (.str "BadPuzzle")], .t [.p 5, .p 7, .d (.str "BadWord")], .t [.p 10, .p 12, .d (.str "BadRecipe")], .t [.p 16, .p 18, .d (.str "BadLadder")], .t [.p 22, .p 24, .d (.str "BadPaper")], .t [.p 28, .p 30, .d (.str "BadPieces")], .t [.p 34, .p 36, .d (.str "BadGlue")], .t [.p 38, .p 40, .d (.str "BadWeb")], .t [.p 44, .p 46, .d (.str "BadText")], .t [.p 48, .p 50, .d (.str "BadDeed")]], .xd [("place", .d x)], .xo (cs 15) "no such stages" (.p 53), .xd [("place", .d x)], .xo (cs 15) "no such stages" (.p 55), .lst [.t [.p 54, .p 56, .d (.str "BadStages")]], .lst [.t [.p 1, .p 3, .d (.str "BadPuzzle")], .t [.p 5, .p 7, .d (.str "BadWord")], .t [.p 10, .p 12, .d (.str "BadRecipe")], .t [.p 16, .p 18, .d (.str "BadLadder")], .t [.p 22, .p 24, .d (.str "BadPaper")], .t [.p 28, .p 30, .d (.str "BadPieces")], .t [.p 34, .p 36, .d (.str "BadGlue")], .t [.p 38, .p 40, .d (.str "BadWeb")], .t [.p 44, .p 46, .d (.str "BadText")], .t [.p 48, .p 50, .d (.str "BadDeed")], .t [.p 54, .p 56, .d (.str "BadStages")]], .xd [("place", .d x)], .xo (cs 4) "no such macros" (.p 59), .xd [("place", .d x)], .xo (cs 4) "no such macros" (.p 61), .lst [.t [.p 60, .p 62, .d (.str "BadMacros")]], .lst [.t [.p 1, .p 3, .d (.str "BadPuzzle")], .t [.p 5, .p 7, .d (.str "BadWord")], .t [.p 10, .p 12, .d (.str "BadRecipe")], .t [.p 16, .p 18, .d (.str "BadLadder")], .t [.p 22, .p 24, .d (.str "BadPaper")], .t [.p 28, .p 30, .d (.str "BadPieces")], .t [.p 34, .p 36, .d (.str "BadGlue")], .t [.p 38, .p 40, .d (.str "BadWeb")], .t [.p 44, .p 46, .d (.str "BadText")], .t [.p 48, .p 50, .d (.str "BadDeed")], .t [.p 54, .p 56, .d (.str "BadStages")], .t [.p 60, .p 62, .d (.str "BadMacros")]], .xd [("place", .d x)], .xo (cs 6) "no such orders" (.p 65), .xd [("place", .d x)], .xo (cs 6) "no such orders" (.p 67), .lst [.t [.p 66, .p 68, .d (.str "BadOrders")]], .lst [.t [.p 1, .p 3, .d (.str "BadPuzzle")], .t [.p 5, .p 7, .d (.str "BadWord")], .t [.p 10, .p 12, .d (.str "BadRecipe")], .t [.p 16, .p 18, .d (.str "BadLadder")], .t [.p 22, .p 24, .d (.str "BadPaper")], .t [.p 28, .p 30, .d (.str "BadPieces")], .t [.p 34, .p 36, .d (.str "BadGlue")], .t [.p 38, .p 40, .d (.str "BadWeb")], .t [.p 44, .p 46, .d (.str "BadText")], .t [.p 48, .p 50, .d (.str "BadDeed")], .t [.p 54, .p 56, .d (.str "BadStages")], .t [.p 60, .p 62, .d (.str "BadMacros")], .t [.p 66, .p 68, .d (.str "BadOrders")]], .xd [("place", .d x)], .xo (cs 14) "no such row" (.p 71), .xd [("place", .d x)], .xo (cs 14) "no such row" (.p 73), .xd [("place", .d x)], .xo (cs 17) "no such task" (.p 75)]) (ex_mkx w17 (ex_var 0)) rfl rfl) (ea_cons (ex_to (s := .p 78) (M2 := [.xd [("place", .d x)], .xo (cs 11) "no such puzzle" (.p 0), .xd [("place", .d x)], .xo (cs 11) "no such puzzle" (.p 2), .xd [("place", .d x)], .xo (cs 20) "no such word" (.p 4), .xd [("place", .d x)], .xo (cs 20) "no such word" (.p 6), .lst [.t [.p 1, .p 3, .d (.str "BadPuzzle")], .t [.p 5, .p 7, .d (.str "BadWord")]], .xd [("place", .d x)], .xo (cs 12) "no such recipe" (.p 9), .xd [("place", .d x)], .xo (cs 12) "no such recipe" (.p 11), .lst [.t [.p 10, .p 12, .d (.str "BadRecipe")]], .lst [.t [.p 1, .p 3, .d (.str "BadPuzzle")], .t [.p 5, .p 7, .d (.str "BadWord")], .t [.p 10, .p 12, .d (.str "BadRecipe")]], .xd [("place", .d x)], .xo (cs 3) "no such ladder" (.p 15), .xd [("place", .d x)], .xo (cs 3) "no such ladder" (.p 17), .lst [.t [.p 16, .p 18, .d (.str "BadLadder")]], .lst [.t [.p 1, .p 3, .d (.str "BadPuzzle")], .t [.p 5, .p 7, .d (.str "BadWord")], .t [.p 10, .p 12, .d (.str "BadRecipe")], .t [.p 16, .p 18, .d (.str "BadLadder")]], .xd [("place", .d x)], .xo (cs 7) "no such paper" (.p 21), .xd [("place", .d x)], .xo (cs 7) "no such paper" (.p 23), .lst [.t [.p 22, .p 24, .d (.str "BadPaper")]], .lst [.t [.p 1, .p 3, .d (.str "BadPuzzle")], .t [.p 5, .p 7, .d (.str "BadWord")], .t [.p 10, .p 12, .d (.str "BadRecipe")], .t [.p 16, .p 18, .d (.str "BadLadder")], .t [.p 22, .p 24, .d (.str "BadPaper")]], .xd [("place", .d x)], .xo (cs 9) "no such pieces" (.p 27), .xd [("place", .d x)], .xo (cs 9) "no such pieces" (.p 29), .lst [.t [.p 28, .p 30, .d (.str "BadPieces")]], .lst [.t [.p 1, .p 3, .d (.str "BadPuzzle")], .t [.p 5, .p 7, .d (.str "BadWord")], .t [.p 10, .p 12, .d (.str "BadRecipe")], .t [.p 16, .p 18, .d (.str "BadLadder")], .t [.p 22, .p 24, .d (.str "BadPaper")], .t [.p 28, .p 30, .d (.str "BadPieces")]], .xd [("place", .d x)], .xo (cs 2) "no such glue" (.p 33), .xd [("place", .d x)], .xo (cs 2) "no such glue" (.p 35), .xd [("place", .d x)], .xo (cs 19) "no such web" (.p 37), .xd [("place", .d x)], .xo (cs 19) "no such web" (.p 39), .lst [.t [.p 34, .p 36, .d (.str "BadGlue")], .t [.p 38, .p 40, .d (.str "BadWeb")]], .lst [.t [.p 1, .p 3, .d (.str "BadPuzzle")], .t [.p 5, .p 7, .d (.str "BadWord")], .t [.p 10, .p 12, .d (.str "BadRecipe")], .t [.p 16, .p 18, .d (.str "BadLadder")], .t [.p 22, .p 24, .d (.str "BadPaper")], .t [.p 28, .p 30, .d (.str "BadPieces")], .t [.p 34, .p 36, .d (.str "BadGlue")], .t [.p 38, .p 40, .d (.str "BadWeb")]], .xd [("place", .d x)], .xo (cs 18) "no such text" (.p 43), .xd [("place", .d x)], .xo (cs 18) "no such text" (.p 45), .xd [("place", .d x)], .xo (cs 1) "no such deed" (.p 47), .xd [("place", .d x)], .xo (cs 1) "no such deed" (.p 49), .lst [.t [.p 44, .p 46, .d (.str "BadText")], .t [.p 48, .p 50, .d (.str "BadDeed")]], .lst [.t [.p 1, .p 3, .d (.str "BadPuzzle")], .t [.p 5, .p 7, .d (.str "BadWord")], .t [.p 10, .p 12, .d (.str "BadRecipe")], .t [.p 16, .p 18, .d (.str "BadLadder")], .t [.p 22, .p 24, .d (.str "BadPaper")], .t [.p 28, .p 30, .d (.str "BadPieces")], .t [.p 34, .p 36, .d (.str "BadGlue")], .t [.p 38, .p 40, .d (.str "BadWeb")], .t [.p 44, .p 46, .d (.str "BadText")], .t [.p 48, .p 50, .d (.str "BadDeed")]], .xd [("place", .d x)], .xo (cs 15) "no such stages" (.p 53), .xd [("place", .d x)], .xo (cs 15) "no such stages" (.p 55), .lst [.t [.p 54, .p 56, .d (.str "BadStages")]], .lst [.t [.p 1, .p 3, .d (.str "BadPuzzle")], .t [.p 5, .p 7, .d (.str "BadWord")], .t [.p 10, .p 12, .d (.str "BadRecipe")], .t [.p 16, .p 18, .d (.str "BadLadder")], .t [.p 22, .p 24, .d (.str "BadPaper")], .t [.p 28, .p 30, .d (.str "BadPieces")], .t [.p 34, .p 36, .d (.str "BadGlue")], .t [.p 38, .p 40, .d (.str "BadWeb")], .t [.p 44, .p 46, .d (.str "BadText")], .t [.p 48, .p 50, .d (.str "BadDeed")], .t [.p 54, .p 56, .d (.str "BadStages")]], .xd [("place", .d x)], .xo (cs 4) "no such macros" (.p 59), .xd [("place", .d x)], .xo (cs 4) "no such macros" (.p 61), .lst [.t [.p 60, .p 62, .d (.str "BadMacros")]], .lst [.t [.p 1, .p 3, .d (.str "BadPuzzle")], .t [.p 5, .p 7, .d (.str "BadWord")], .t [.p 10, .p 12, .d (.str "BadRecipe")], .t [.p 16, .p 18, .d (.str "BadLadder")], .t [.p 22, .p 24, .d (.str "BadPaper")], .t [.p 28, .p 30, .d (.str "BadPieces")], .t [.p 34, .p 36, .d (.str "BadGlue")], .t [.p 38, .p 40, .d (.str "BadWeb")], .t [.p 44, .p 46, .d (.str "BadText")], .t [.p 48, .p 50, .d (.str "BadDeed")], .t [.p 54, .p 56, .d (.str "BadStages")], .t [.p 60, .p 62, .d (.str "BadMacros")]], .xd [("place", .d x)], .xo (cs 6) "no such orders" (.p 65), .xd [("place", .d x)], .xo (cs 6) "no such orders" (.p 67), .lst [.t [.p 66, .p 68, .d (.str "BadOrders")]], .lst [.t [.p 1, .p 3, .d (.str "BadPuzzle")], .t [.p 5, .p 7, .d (.str "BadWord")], .t [.p 10, .p 12, .d (.str "BadRecipe")], .t [.p 16, .p 18, .d (.str "BadLadder")], .t [.p 22, .p 24, .d (.str "BadPaper")], .t [.p 28, .p 30, .d (.str "BadPieces")], .t [.p 34, .p 36, .d (.str "BadGlue")], .t [.p 38, .p 40, .d (.str "BadWeb")], .t [.p 44, .p 46, .d (.str "BadText")], .t [.p 48, .p 50, .d (.str "BadDeed")], .t [.p 54, .p 56, .d (.str "BadStages")], .t [.p 60, .p 62, .d (.str "BadMacros")], .t [.p 66, .p 68, .d (.str "BadOrders")]], .xd [("place", .d x)], .xo (cs 14) "no such row" (.p 71), .xd [("place", .d x)], .xo (cs 14) "no such row" (.p 73), .xd [("place", .d x)], .xo (cs 17) "no such task" (.p 75), .xd [("place", .d x)], .xo (cs 17) "no such task" (.p 77)]) (ex_mkxK w17 (ex_var 0)) rfl rfl) (ea_cons ex_str ea_nil))) (Nat.le_of_ble_eq_true rfl)) rfl rfl) (ea_nil))) (Nat.le_of_ble_eq_true rfl)) rfl rfl) (OS.to (os_cat (xs := [.t [.p 1, .p 3, .d (.str "BadPuzzle")], .t [.p 5, .p 7, .d (.str "BadWord")], .t [.p 10, .p 12, .d (.str "BadRecipe")], .t [.p 16, .p 18, .d (.str "BadLadder")], .t [.p 22, .p 24, .d (.str "BadPaper")], .t [.p 28, .p 30, .d (.str "BadPieces")], .t [.p 34, .p 36, .d (.str "BadGlue")], .t [.p 38, .p 40, .d (.str "BadWeb")], .t [.p 44, .p 46, .d (.str "BadText")], .t [.p 48, .p 50, .d (.str "BadDeed")], .t [.p 54, .p 56, .d (.str "BadStages")], .t [.p 60, .p 62, .d (.str "BadMacros")], .t [.p 66, .p 68, .d (.str "BadOrders")]]) (ys := [.t [.p 72, .p 74, .d (.str "BadRow")], .t [.p 76, .p 78, .d (.str "BadTask")]]) rfl rfl (Nat.le_of_ble_eq_true rfl)) (r' := .p 80) (M' := [.xd [("place", .d x)], .xo (cs 11) "no such puzzle" (.p 0), .xd [("place", .d x)], .xo (cs 11) "no such puzzle" (.p 2), .xd [("place", .d x)], .xo (cs 20) "no such word" (.p 4), .xd [("place", .d x)], .xo (cs 20) "no such word" (.p 6), .lst [.t [.p 1, .p 3, .d (.str "BadPuzzle")], .t [.p 5, .p 7, .d (.str "BadWord")]], .xd [("place", .d x)], .xo (cs 12) "no such recipe" (.p 9), .xd [("place", .d x)], .xo (cs 12) "no such recipe" (.p 11), .lst [.t [.p 10, .p 12, .d (.str "BadRecipe")]], .lst [.t [.p 1, .p 3, .d (.str "BadPuzzle")], .t [.p 5, .p 7, .d (.str "BadWord")], .t [.p 10, .p 12, .d (.str "BadRecipe")]], .xd [("place", .d x)], .xo (cs 3) "no such ladder" (.p 15), .xd [("place", .d x)], .xo (cs 3) "no such ladder" (.p 17), .lst [.t [.p 16, .p 18, .d (.str "BadLadder")]], .lst [.t [.p 1, .p 3, .d (.str "BadPuzzle")], .t [.p 5, .p 7, .d (.str "BadWord")], .t [.p 10, .p 12, .d (.str "BadRecipe")], .t [.p 16, .p 18, .d (.str "BadLadder")]], .xd [("place", .d x)], .xo (cs 7) "no such paper" (.p 21), .xd [("place", .d x)], .xo (cs 7) "no such paper" (.p 23), .lst [.t [.p 22, .p 24, .d (.str "BadPaper")]], .lst [.t [.p 1, .p 3, .d (.str "BadPuzzle")], .t [.p 5, .p 7, .d (.str "BadWord")], .t [.p 10, .p 12, .d (.str "BadRecipe")], .t [.p 16, .p 18, .d (.str "BadLadder")], .t [.p 22, .p 24, .d (.str "BadPaper")]], .xd [("place", .d x)], .xo (cs 9) "no such pieces" (.p 27), .xd [("place", .d x)], .xo (cs 9) "no such pieces" (.p 29), .lst [.t [.p 28, .p 30, .d (.str "BadPieces")]], .lst [.t [.p 1, .p 3, .d (.str "BadPuzzle")], .t [.p 5, .p 7, .d (.str "BadWord")], .t [.p 10, .p 12, .d (.str "BadRecipe")], .t [.p 16, .p 18, .d (.str "BadLadder")], .t [.p 22, .p 24, .d (.str "BadPaper")], .t [.p 28, .p 30, .d (.str "BadPieces")]], .xd [("place", .d x)], .xo (cs 2) "no such glue" (.p 33), .xd [("place", .d x)], .xo (cs 2) "no such glue" (.p 35), .xd [("place", .d x)], .xo (cs 19) "no such web" (.p 37), .xd [("place", .d x)], .xo (cs 19) "no such web" (.p 39), .lst [.t [.p 34, .p 36, .d (.str "BadGlue")], .t [.p 38, .p 40, .d (.str "BadWeb")]], .lst [.t [.p 1, .p 3, .d (.str "BadPuzzle")], .t [.p 5, .p 7, .d (.str "BadWord")], .t [.p 10, .p 12, .d (.str "BadRecipe")], .t [.p 16, .p 18, .d (.str "BadLadder")], .t [.p 22, .p 24, .d (.str "BadPaper")], .t [.p 28, .p 30, .d (.str "BadPieces")], .t [.p 34, .p 36, .d (.str "BadGlue")], .t [.p 38, .p 40, .d (.str "BadWeb")]], .xd [("place", .d x)], .xo (cs 18) "no such text" (.p 43), .xd [("place", .d x)], .xo (cs 18) "no such text" (.p 45), .xd [("place", .d x)], .xo (cs 1) "no such deed" (.p 47), .xd [("place", .d x)], .xo (cs 1) "no such deed" (.p 49), .lst [.t [.p 44, .p 46, .d (.str "BadText")], .t [.p 48, .p 50, .d (.str "BadDeed")]], .lst [.t [.p 1, .p 3, .d (.str "BadPuzzle")], .t [.p 5, .p 7, .d (.str "BadWord")], .t [.p 10, .p 12, .d (.str "BadRecipe")], .t [.p 16, .p 18, .d (.str "BadLadder")], .t [.p 22, .p 24, .d (.str "BadPaper")], .t [.p 28, .p 30, .d (.str "BadPieces")], .t [.p 34, .p 36, .d (.str "BadGlue")], .t [.p 38, .p 40, .d (.str "BadWeb")], .t [.p 44, .p 46, .d (.str "BadText")], .t [.p 48, .p 50, .d (.str "BadDeed")]], .xd [("place", .d x)], .xo (cs 15) "no such stages" (.p 53), .xd [("place", .d x)], .xo (cs 15) "no such stages" (.p 55), .lst [.t [.p 54, .p 56, .d (.str "BadStages")]], .lst [.t [.p 1, .p 3, .d (.str "BadPuzzle")], .t [.p 5, .p 7, .d (.str "BadWord")], .t [.p 10, .p 12, .d (.str "BadRecipe")], .t [.p 16, .p 18, .d (.str "BadLadder")], .t [.p 22, .p 24, .d (.str "BadPaper")], .t [.p 28, .p 30, .d (.str "BadPieces")], .t [.p 34, .p 36, .d (.str "BadGlue")], .t [.p 38, .p 40, .d (.str "BadWeb")], .t [.p 44, .p 46, .d (.str "BadText")], .t [.p 48, .p 50, .d (.str "BadDeed")], .t [.p 54, .p 56, .d (.str "BadStages")]], .xd [("place", .d x)], .xo (cs 4) "no such macros" (.p 59), .xd [("place", .d x)], .xo (cs 4) "no such macros" (.p 61), .lst [.t [.p 60, .p 62, .d (.str "BadMacros")]], .lst [.t [.p 1, .p 3, .d (.str "BadPuzzle")], .t [.p 5, .p 7, .d (.str "BadWord")], .t [.p 10, .p 12, .d (.str "BadRecipe")], .t [.p 16, .p 18, .d (.str "BadLadder")], .t [.p 22, .p 24, .d (.str "BadPaper")], .t [.p 28, .p 30, .d (.str "BadPieces")], .t [.p 34, .p 36, .d (.str "BadGlue")], .t [.p 38, .p 40, .d (.str "BadWeb")], .t [.p 44, .p 46, .d (.str "BadText")], .t [.p 48, .p 50, .d (.str "BadDeed")], .t [.p 54, .p 56, .d (.str "BadStages")], .t [.p 60, .p 62, .d (.str "BadMacros")]], .xd [("place", .d x)], .xo (cs 6) "no such orders" (.p 65), .xd [("place", .d x)], .xo (cs 6) "no such orders" (.p 67), .lst [.t [.p 66, .p 68, .d (.str "BadOrders")]], .lst [.t [.p 1, .p 3, .d (.str "BadPuzzle")], .t [.p 5, .p 7, .d (.str "BadWord")], .t [.p 10, .p 12, .d (.str "BadRecipe")], .t [.p 16, .p 18, .d (.str "BadLadder")], .t [.p 22, .p 24, .d (.str "BadPaper")], .t [.p 28, .p 30, .d (.str "BadPieces")], .t [.p 34, .p 36, .d (.str "BadGlue")], .t [.p 38, .p 40, .d (.str "BadWeb")], .t [.p 44, .p 46, .d (.str "BadText")], .t [.p 48, .p 50, .d (.str "BadDeed")], .t [.p 54, .p 56, .d (.str "BadStages")], .t [.p 60, .p 62, .d (.str "BadMacros")], .t [.p 66, .p 68, .d (.str "BadOrders")]], .xd [("place", .d x)], .xo (cs 14) "no such row" (.p 71), .xd [("place", .d x)], .xo (cs 14) "no such row" (.p 73), .xd [("place", .d x)], .xo (cs 17) "no such task" (.p 75), .xd [("place", .d x)], .xo (cs 17) "no such task" (.p 77), .lst [.t [.p 72, .p 74, .d (.str "BadRow")], .t [.p 76, .p 78, .d (.str "BadTask")]], .lst [.t [.p 1, .p 3, .d (.str "BadPuzzle")], .t [.p 5, .p 7, .d (.str "BadWord")], .t [.p 10, .p 12, .d (.str "BadRecipe")], .t [.p 16, .p 18, .d (.str "BadLadder")], .t [.p 22, .p 24, .d (.str "BadPaper")], .t [.p 28, .p 30, .d (.str "BadPieces")], .t [.p 34, .p 36, .d (.str "BadGlue")], .t [.p 38, .p 40, .d (.str "BadWeb")], .t [.p 44, .p 46, .d (.str "BadText")], .t [.p 48, .p 50, .d (.str "BadDeed")], .t [.p 54, .p 56, .d (.str "BadStages")], .t [.p 60, .p 62, .d (.str "BadMacros")], .t [.p 66, .p 68, .d (.str "BadOrders")], .t [.p 72, .p 74, .d (.str "BadRow")], .t [.p 76, .p 78, .d (.str "BadTask")]]]) rfl rfl)
                      · refine bx_cons ?_
                        apply sx_set 1
                        · exact ex_bin (ex_var 1) (ex_to (s := .p 85) (M2 := [.xd [("place", .d x)], .xo (cs 11) "no such puzzle" (.p 0), .xd [("place", .d x)], .xo (cs 11) "no such puzzle" (.p 2), .xd [("place", .d x)], .xo (cs 20) "no such word" (.p 4), .xd [("place", .d x)], .xo (cs 20) "no such word" (.p 6), .lst [.t [.p 1, .p 3, .d (.str "BadPuzzle")], .t [.p 5, .p 7, .d (.str "BadWord")]], .xd [("place", .d x)], .xo (cs 12) "no such recipe" (.p 9), .xd [("place", .d x)], .xo (cs 12) "no such recipe" (.p 11), .lst [.t [.p 10, .p 12, .d (.str "BadRecipe")]], .lst [.t [.p 1, .p 3, .d (.str "BadPuzzle")], .t [.p 5, .p 7, .d (.str "BadWord")], .t [.p 10, .p 12, .d (.str "BadRecipe")]], .xd [("place", .d x)], .xo (cs 3) "no such ladder" (.p 15), .xd [("place", .d x)], .xo (cs 3) "no such ladder" (.p 17), .lst [.t [.p 16, .p 18, .d (.str "BadLadder")]], .lst [.t [.p 1, .p 3, .d (.str "BadPuzzle")], .t [.p 5, .p 7, .d (.str "BadWord")], .t [.p 10, .p 12, .d (.str "BadRecipe")], .t [.p 16, .p 18, .d (.str "BadLadder")]], .xd [("place", .d x)], .xo (cs 7) "no such paper" (.p 21), .xd [("place", .d x)], .xo (cs 7) "no such paper" (.p 23), .lst [.t [.p 22, .p 24, .d (.str "BadPaper")]], .lst [.t [.p 1, .p 3, .d (.str "BadPuzzle")], .t [.p 5, .p 7, .d (.str "BadWord")], .t [.p 10, .p 12, .d (.str "BadRecipe")], .t [.p 16, .p 18, .d (.str "BadLadder")], .t [.p 22, .p 24, .d (.str "BadPaper")]], .xd [("place", .d x)], .xo (cs 9) "no such pieces" (.p 27), .xd [("place", .d x)], .xo (cs 9) "no such pieces" (.p 29), .lst [.t [.p 28, .p 30, .d (.str "BadPieces")]], .lst [.t [.p 1, .p 3, .d (.str "BadPuzzle")], .t [.p 5, .p 7, .d (.str "BadWord")], .t [.p 10, .p 12, .d (.str "BadRecipe")], .t [.p 16, .p 18, .d (.str "BadLadder")], .t [.p 22, .p 24, .d (.str "BadPaper")], .t [.p 28, .p 30, .d (.str "BadPieces")]], .xd [("place", .d x)], .xo (cs 2) "no such glue" (.p 33), .xd [("place", .d x)], .xo (cs 2) "no such glue" (.p 35), .xd [("place", .d x)], .xo (cs 19) "no such web" (.p 37), .xd [("place", .d x)], .xo (cs 19) "no such web" (.p 39), .lst [.t [.p 34, .p 36, .d (.str "BadGlue")], .t [.p 38, .p 40, .d (.str "BadWeb")]], .lst [.t [.p 1, .p 3, .d (.str "BadPuzzle")], .t [.p 5, .p 7, .d (.str "BadWord")], .t [.p 10, .p 12, .d (.str "BadRecipe")], .t [.p 16, .p 18, .d (.str "BadLadder")], .t [.p 22, .p 24, .d (.str "BadPaper")], .t [.p 28, .p 30, .d (.str "BadPieces")], .t [.p 34, .p 36, .d (.str "BadGlue")], .t [.p 38, .p 40, .d (.str "BadWeb")]], .xd [("place", .d x)], .xo (cs 18) "no such text" (.p 43), .xd [("place", .d x)], .xo (cs 18) "no such text" (.p 45), .xd [("place", .d x)], .xo (cs 1) "no such deed" (.p 47), .xd [("place", .d x)], .xo (cs 1) "no such deed" (.p 49), .lst [.t [.p 44, .p 46, .d (.str "BadText")], .t [.p 48, .p 50, .d (.str "BadDeed")]], .lst [.t [.p 1, .p 3, .d (.str "BadPuzzle")], .t [.p 5, .p 7, .d (.str "BadWord")], .t [.p 10, .p 12, .d (.str "BadRecipe")], .t [.p 16, .p 18, .d (.str "BadLadder")], .t [.p 22, .p 24, .d (.str "BadPaper")], .t [.p 28, .p 30, .d (.str "BadPieces")], .t [.p 34, .p 36, .d (.str "BadGlue")], .t [.p 38, .p 40, .d (.str "BadWeb")], .t [.p 44, .p 46, .d (.str "BadText")], .t [.p 48, .p 50, .d (.str "BadDeed")]], .xd [("place", .d x)], .xo (cs 15) "no such stages" (.p 53), .xd [("place", .d x)], .xo (cs 15) "no such stages" (.p 55), .lst [.t [.p 54, .p 56, .d (.str "BadStages")]], .lst [.t [.p 1, .p 3, .d (.str "BadPuzzle")], .t [.p 5, .p 7, .d (.str "BadWord")], .t [.p 10, .p 12, .d (.str "BadRecipe")], .t [.p 16, .p 18, .d (.str "BadLadder")], .t [.p 22, .p 24, .d (.str "BadPaper")], .t [.p 28, .p 30, .d (.str "BadPieces")], .t [.p 34, .p 36, .d (.str "BadGlue")], .t [.p 38, .p 40, .d (.str "BadWeb")], .t [.p 44, .p 46, .d (.str "BadText")], .t [.p 48, .p 50, .d (.str "BadDeed")], .t [.p 54, .p 56, .d (.str "BadStages")]], .xd [("place", .d x)], .xo (cs 4) "no such macros" (.p 59), .xd [("place", .d x)], .xo (cs 4) "no such macros" (.p 61), .lst [.t [.p 60, .p 62, .d (.str "BadMacros")]], .lst [.t [.p 1, .p 3, .d (.str "BadPuzzle")], .t [.p 5, .p 7, .d (.str "BadWord")], .t [.p 10, .p 12, .d (.str "BadRecipe")], .t [.p 16, .p 18, .d (.str "BadLadder")], .t [.p 22, .p 24, .d (.str "BadPaper")], .t [.p 28, .p 30, .d (.str "BadPieces")], .t [.p 34, .p 36, .d (.str "BadGlue")], .t [.p 38, .p 40, .d (.str "BadWeb")], .t [.p 44, .p 46, .d (.str "BadText")], .t [.p 48, .p 50, .d (.str "BadDeed")], .t [.p 54, .p 56, .d (.str "BadStages")], .t [.p 60, .p 62, .d (.str "BadMacros")]], .xd [("place", .d x)], .xo (cs 6) "no such orders" (.p 65), .xd [("place", .d x)], .xo (cs 6) "no such orders" (.p 67), .lst [.t [.p 66, .p 68, .d (.str "BadOrders")]], .lst [.t [.p 1, .p 3, .d (.str "BadPuzzle")], .t [.p 5, .p 7, .d (.str "BadWord")], .t [.p 10, .p 12, .d (.str "BadRecipe")], .t [.p 16, .p 18, .d (.str "BadLadder")], .t [.p 22, .p 24, .d (.str "BadPaper")], .t [.p 28, .p 30, .d (.str "BadPieces")], .t [.p 34, .p 36, .d (.str "BadGlue")], .t [.p 38, .p 40, .d (.str "BadWeb")], .t [.p 44, .p 46, .d (.str "BadText")], .t [.p 48, .p 50, .d (.str "BadDeed")], .t [.p 54, .p 56, .d (.str "BadStages")], .t [.p 60, .p 62, .d (.str "BadMacros")], .t [.p 66, .p 68, .d (.str "BadOrders")]], .xd [("place", .d x)], .xo (cs 14) "no such row" (.p 71), .xd [("place", .d x)], .xo (cs 14) "no such row" (.p 73), .xd [("place", .d x)], .xo (cs 17) "no such task" (.p 75), .xd [("place", .d x)], .xo (cs 17) "no such task" (.p 77), .lst [.t [.p 72, .p 74, .d (.str "BadRow")], .t [.p 76, .p 78, .d (.str "BadTask")]], .lst [.t [.p 1, .p 3, .d (.str "BadPuzzle")], .t [.p 5, .p 7, .d (.str "BadWord")], .t [.p 10, .p 12, .d (.str "BadRecipe")], .t [.p 16, .p 18, .d (.str "BadLadder")], .t [.p 22, .p 24, .d (.str "BadPaper")], .t [.p 28, .p 30, .d (.str "BadPieces")], .t [.p 34, .p 36, .d (.str "BadGlue")], .t [.p 38, .p 40, .d (.str "BadWeb")], .t [.p 44, .p 46, .d (.str "BadText")], .t [.p 48, .p 50, .d (.str "BadDeed")], .t [.p 54, .p 56, .d (.str "BadStages")], .t [.p 60, .p 62, .d (.str "BadMacros")], .t [.p 66, .p 68, .d (.str "BadOrders")], .t [.p 72, .p 74, .d (.str "BadRow")], .t [.p 76, .p 78, .d (.str "BadTask")]], .xd [("place", .d x)], .xo (cs 13) "no such replay" (.p 81), .xd [("place", .d x)], .xo (cs 13) "no such replay" (.p 83), .lst [.t [.p 82, .p 84, .d (.str "BadReplay")]]]) (ex_list (ea_cons (ex_to (s := .t [.p 82, .p 84, .d (.str "BadReplay")]) (M2 := [.xd [("place", .d x)], .xo (cs 11) "no such puzzle" (.p 0), .xd [("place", .d x)], .xo (cs 11) "no such puzzle" (.p 2), .xd [("place", .d x)], .xo (cs 20) "no such word" (.p 4), .xd [("place", .d x)], .xo (cs 20) "no such word" (.p 6), .lst [.t [.p 1, .p 3, .d (.str "BadPuzzle")], .t [.p 5, .p 7, .d (.str "BadWord")]], .xd [("place", .d x)], .xo (cs 12) "no such recipe" (.p 9), .xd [("place", .d x)], .xo (cs 12) "no such recipe" (.p 11), .lst [.t [.p 10, .p 12, .d (.str "BadRecipe")]], .lst [.t [.p 1, .p 3, .d (.str "BadPuzzle")], .t [.p 5, .p 7, .d (.str "BadWord")], .t [.p 10, .p 12, .d (.str "BadRecipe")]], .xd [("place", .d x)], .xo (cs 3) "no such ladder" (.p 15), .xd [("place", .d x)], .xo (cs 3) "no such ladder" (.p 17), .lst [.t [.p 16, .p 18, .d (.str "BadLadder")]], .lst [.t [.p 1, .p 3, .d (.str "BadPuzzle")], .t [.p 5, .p 7, .d (.str "BadWord")], .t [.p 10, .p 12, .d (.str "BadRecipe")], .t [.p 16, .p 18, .d (.str "BadLadder")]], .xd [("place", .d x)], .xo (cs 7) "no such paper" (.p 21), .xd [("place", .d x)], .xo (cs 7) "no such paper" (.p 23), .lst [.t [.p 22, .p 24, .d (.str "BadPaper")]], .lst [.t [.p 1, .p 3, .d (.str "BadPuzzle")], .t [.p 5, .p 7, .d (.str "BadWord")], .t [.p 10, .p 12, .d (.str "BadRecipe")], .t [.p 16, .p 18, .d (.str "BadLadder")], .t [.p 22, .p 24, .d (.str "BadPaper")]], .xd [("place", .d x)], .xo (cs 9) "no such pieces" (.p 27), .xd [("place", .d x)], .xo (cs 9) "no such pieces" (.p 29), .lst [.t [.p 28, .p 30, .d (.str "BadPieces")]], .lst [.t [.p 1, .p 3, .d (.str "BadPuzzle")], .t [.p 5, .p 7, .d (.str "BadWord")], .t [.p 10, .p 12, .d (.str "BadRecipe")], .t [.p 16, .p 18, .d (.str "BadLadder")], .t [.p 22, .p 24, .d (.str "BadPaper")], .t [.p 28, .p 30, .d (.str "BadPieces")]], .xd [("place", .d x)], .xo (cs 2) "no such glue" (.p 33), .xd [("place", .d x)], .xo (cs 2) "no such glue" (.p 35), .xd [("place", .d x)], .xo (cs 19) "no such web" (.p 37), .xd [("place", .d x)], .xo (cs 19) "no such web" (.p 39), .lst [.t [.p 34, .p 36, .d (.str "BadGlue")], .t [.p 38, .p 40, .d (.str "BadWeb")]], .lst [.t [.p 1, .p 3, .d (.str "BadPuzzle")], .t [.p 5, .p 7, .d (.str "BadWord")], .t [.p 10, .p 12, .d (.str "BadRecipe")], .t [.p 16, .p 18, .d (.str "BadLadder")], .t [.p 22, .p 24, .d (.str "BadPaper")], .t [.p 28, .p 30, .d (.str "BadPieces")], .t [.p 34, .p 36, .d (.str "BadGlue")], .t [.p 38, .p 40, .d (.str "BadWeb")]], .xd [("place", .d x)], .xo (cs 18) "no such text" (.p 43), .xd [("place", .d x)], .xo (cs 18) "no such text" (.p 45), .xd [("place", .d x)], .xo (cs 1) "no such deed" (.p 47), .xd [("place", .d x)], .xo (cs 1) "no such deed" (.p 49), .lst [.t [.p 44, .p 46, .d (.str "BadText")], .t [.p 48, .p 50, .d (.str "BadDeed")]], .lst [.t [.p 1, .p 3, .d (.str "BadPuzzle")], .t [.p 5, .p 7, .d (.str "BadWord")], .t [.p 10, .p 12, .d (.str "BadRecipe")], .t [.p 16, .p 18, .d (.str "BadLadder")], .t [.p 22, .p 24, .d (.str "BadPaper")], .t [.p 28, .p 30, .d (.str "BadPieces")], .t [.p 34, .p 36, .d (.str "BadGlue")], .t [.p 38, .p 40, .d (.str "BadWeb")], .t [.p 44, .p 46, .d (.str "BadText")], .t [.p 48, .p 50, .d (.str "BadDeed")]], .xd [("place", .d x)], .xo (cs 15) "no such stages" (.p 53), .xd [("place", .d x)], .xo (cs 15) "no such stages" (.p 55), .lst [.t [.p 54, .p 56, .d (.str "BadStages")]], .lst [.t [.p 1, .p 3, .d (.str "BadPuzzle")], .t [.p 5, .p 7, .d (.str "BadWord")], .t [.p 10, .p 12, .d (.str "BadRecipe")], .t [.p 16, .p 18, .d (.str "BadLadder")], .t [.p 22, .p 24, .d (.str "BadPaper")], .t [.p 28, .p 30, .d (.str "BadPieces")], .t [.p 34, .p 36, .d (.str "BadGlue")], .t [.p 38, .p 40, .d (.str "BadWeb")], .t [.p 44, .p 46, .d (.str "BadText")], .t [.p 48, .p 50, .d (.str "BadDeed")], .t [.p 54, .p 56, .d (.str "BadStages")]], .xd [("place", .d x)], .xo (cs 4) "no such macros" (.p 59), .xd [("place", .d x)], .xo (cs 4) "no such macros" (.p 61), .lst [.t [.p 60, .p 62, .d (.str "BadMacros")]], .lst [.t [.p 1, .p 3, .d (.str "BadPuzzle")], .t [.p 5, .p 7, .d (.str "BadWord")], .t [.p 10, .p 12, .d (.str "BadRecipe")], .t [.p 16, .p 18, .d (.str "BadLadder")], .t [.p 22, .p 24, .d (.str "BadPaper")], .t [.p 28, .p 30, .d (.str "BadPieces")], .t [.p 34, .p 36, .d (.str "BadGlue")], .t [.p 38, .p 40, .d (.str "BadWeb")], .t [.p 44, .p 46, .d (.str "BadText")], .t [.p 48, .p 50, .d (.str "BadDeed")], .t [.p 54, .p 56, .d (.str "BadStages")], .t [.p 60, .p 62, .d (.str "BadMacros")]], .xd [("place", .d x)], .xo (cs 6) "no such orders" (.p 65), .xd [("place", .d x)], .xo (cs 6) "no such orders" (.p 67), .lst [.t [.p 66, .p 68, .d (.str "BadOrders")]], .lst [.t [.p 1, .p 3, .d (.str "BadPuzzle")], .t [.p 5, .p 7, .d (.str "BadWord")], .t [.p 10, .p 12, .d (.str "BadRecipe")], .t [.p 16, .p 18, .d (.str "BadLadder")], .t [.p 22, .p 24, .d (.str "BadPaper")], .t [.p 28, .p 30, .d (.str "BadPieces")], .t [.p 34, .p 36, .d (.str "BadGlue")], .t [.p 38, .p 40, .d (.str "BadWeb")], .t [.p 44, .p 46, .d (.str "BadText")], .t [.p 48, .p 50, .d (.str "BadDeed")], .t [.p 54, .p 56, .d (.str "BadStages")], .t [.p 60, .p 62, .d (.str "BadMacros")], .t [.p 66, .p 68, .d (.str "BadOrders")]], .xd [("place", .d x)], .xo (cs 14) "no such row" (.p 71), .xd [("place", .d x)], .xo (cs 14) "no such row" (.p 73), .xd [("place", .d x)], .xo (cs 17) "no such task" (.p 75), .xd [("place", .d x)], .xo (cs 17) "no such task" (.p 77), .lst [.t [.p 72, .p 74, .d (.str "BadRow")], .t [.p 76, .p 78, .d (.str "BadTask")]], .lst [.t [.p 1, .p 3, .d (.str "BadPuzzle")], .t [.p 5, .p 7, .d (.str "BadWord")], .t [.p 10, .p 12, .d (.str "BadRecipe")], .t [.p 16, .p 18, .d (.str "BadLadder")], .t [.p 22, .p 24, .d (.str "BadPaper")], .t [.p 28, .p 30, .d (.str "BadPieces")], .t [.p 34, .p 36, .d (.str "BadGlue")], .t [.p 38, .p 40, .d (.str "BadWeb")], .t [.p 44, .p 46, .d (.str "BadText")], .t [.p 48, .p 50, .d (.str "BadDeed")], .t [.p 54, .p 56, .d (.str "BadStages")], .t [.p 60, .p 62, .d (.str "BadMacros")], .t [.p 66, .p 68, .d (.str "BadOrders")], .t [.p 72, .p 74, .d (.str "BadRow")], .t [.p 76, .p 78, .d (.str "BadTask")]], .xd [("place", .d x)], .xo (cs 13) "no such replay" (.p 81), .xd [("place", .d x)], .xo (cs 13) "no such replay" (.p 83)]) (ex_tup (ea_cons (ex_to (s := .p 82) (M2 := [.xd [("place", .d x)], .xo (cs 11) "no such puzzle" (.p 0), .xd [("place", .d x)], .xo (cs 11) "no such puzzle" (.p 2), .xd [("place", .d x)], .xo (cs 20) "no such word" (.p 4), .xd [("place", .d x)], .xo (cs 20) "no such word" (.p 6), .lst [.t [.p 1, .p 3, .d (.str "BadPuzzle")], .t [.p 5, .p 7, .d (.str "BadWord")]], .xd [("place", .d x)], .xo (cs 12) "no such recipe" (.p 9), .xd [("place", .d x)], .xo (cs 12) "no such recipe" (.p 11), .lst [.t [.p 10, .p 12, .d (.str "BadRecipe")]], .lst [.t [.p 1, .p 3, .d (.str "BadPuzzle")], .t [.p 5, .p 7, .d (.str "BadWord")], .t [.p 10, .p 12, .d (.str "BadRecipe")]], .xd [("place", .d x)], .xo (cs 3) "no such ladder" (.p 15), .xd [("place", .d x)], .xo (cs 3) "no such ladder" (.p 17), .lst [.t [.p 16, .p 18, .d (.str "BadLadder")]], .lst [.t [.p 1, .p 3, .d (.str "BadPuzzle")], .t [.p 5, .p 7, .d (.str "BadWord")], .t [.p 10, .p 12, .d (.str "BadRecipe")], .t [.p 16, .p 18, .d (.str "BadLadder")]], .xd [("place", .d x)], .xo (cs 7) "no such paper" (.p 21), .xd [("place", .d x)], .xo (cs 7) "no such paper" (.p 23), .lst [.t [.p 22, .p 24, .d (.str "BadPaper")]], .lst [.t [.p 1, .p 3, .d (.str "BadPuzzle")], .t [.p 5, .p 7, .d (.str "BadWord")], .t [.p 10, .p 12, .d (.str "BadRecipe")], .t [.p 16, .p 18, .d (.str "BadLadder")], .t [.p 22, .p 24, .d (.str "BadPaper")]], .xd [("place", .d x)], .xo (cs 9) "no such pieces" (.p 27), .xd [("place", .d x)], .xo (cs 9) "no such pieces" (.p 29), .lst [.t [.p 28, .p 30, .d (.str "BadPieces")]], .lst [.t [.p 1, .p 3, .d (.str "BadPuzzle")], .t [.p 5, .p 7, .d (.str "BadWord")], .t [.p 10, .p 12, .d (.str "BadRecipe")], .t [.p 16, .p 18, .d (.str "BadLadder")], .t [.p 22, .p 24, .d (.str "BadPaper")], .t [.p 28, .p 30, .d (.str "BadPieces")]], .xd [("place", .d x)], .xo (cs 2) "no such glue" (.p 33), .xd [("place", .d x)], .xo (cs 2) "no such glue" (.p 35), .xd [("place", .d x)], .xo (cs 19) "no such web" (.p 37), .xd [("place", .d x)], .xo (cs 19) "no such web" (.p 39), .lst [.t [.p 34, .p 36, .d (.str "BadGlue")], .t [.p 38, .p 40, .d (.str "BadWeb")]], .lst [.t [.p 1, .p 3, .d (.str "BadPuzzle")], .t [.p 5, .p 7, .d (.str "BadWord")], .t [.p 10, .p 12, .d (.str "BadRecipe")], .t [.p 16, .p 18, .d (.str "BadLadder")], .t [.p 22, .p 24, .d (.str "BadPaper")], .t [.p 28, .p 30, .d (.str "BadPieces")], .t [.p 34, .p 36, .d (.str "BadGlue")], .t [.p 38, .p 40, .d (.str "BadWeb")]], .xd [("place", .d x)], .xo (cs 18) "no such text" (.p 43), .xd [("place", .d x)], .xo (cs 18) "no such text" (.p 45), .xd [("place", .d x)], .xo (cs 1) "no such deed" (.p 47), .xd [("place", .d x)], .xo (cs 1) "no such deed" (.p 49), .lst [.t [.p 44, .p 46, .d (.str "BadText")], .t [.p 48, .p 50, .d (.str "BadDeed")]], .lst [.t [.p 1, .p 3, .d (.str "BadPuzzle")], .t [.p 5, .p 7, .d (.str "BadWord")], .t [.p 10, .p 12, .d (.str "BadRecipe")], .t [.p 16, .p 18, .d (.str "BadLadder")], .t [.p 22, .p 24, .d (.str "BadPaper")], .t [.p 28, .p 30, .d (.str "BadPieces")], .t [.p 34, .p 36, .d (.str "BadGlue")], .t [.p 38, .p 40, .d (.str "BadWeb")], .t [.p 44, .p 46, .d (.str "BadText")], .t [.p 48, .p 50, .d (.str "BadDeed")]], .xd [("place", .d x)], .xo (cs 15) "no such stages" (.p 53), .xd [("place", .d x)], .xo (cs 15) "no such stages" (.p 55), .lst [.t [.p 54, .p 56, .d (.str "BadStages")]], .lst [.t [.p 1, .p 3, .d (.str "BadPuzzle")], .t [.p 5, .p 7, .d (.str "BadWord")], .t [.p 10, .p 12, .d (.str "BadRecipe")], .t [.p 16, .p 18, .d (.str "BadLadder")], .t [.p 22, .p 24, .d (.str "BadPaper")], .t [.p 28, .p 30, .d (.str "BadPieces")], .t [.p 34, .p 36, .d (.str "BadGlue")], .t [.p 38, .p 40, .d (.str "BadWeb")], .t [.p 44, .p 46, .d (.str "BadText")], .t [.p 48, .p 50, .d (.str "BadDeed")], .t [.p 54, .p 56, .d (.str "BadStages")]], .xd [("place", .d x)], .xo (cs 4) "no such macros" (.p 59), .xd [("place", .d x)], .xo (cs 4) "no such macros" (.p 61), .lst [.t [.p 60, .p 62, .d (.str "BadMacros")]], .lst [.t [.p 1, .p 3, .d (.str "BadPuzzle")], .t [.p 5, .p 7, .d (.str "BadWord")], .t [.p 10, .p 12, .d (.str "BadRecipe")], .t [.p 16, .p 18, .d (.str "BadLadder")], .t [.p 22, .p 24, .d (.str "BadPaper")], .t [.p 28, .p 30, .d (.str "BadPieces")], .t [.p 34, .p 36, .d (.str "BadGlue")], .t [.p 38, .p 40, .d (.str "BadWeb")], .t [.p 44, .p 46, .d (.str "BadText")], .t [.p 48, .p 50, .d (.str "BadDeed")], .t [.p 54, .p 56, .d (.str "BadStages")], .t [.p 60, .p 62, .d (.str "BadMacros")]], .xd [("place", .d x)], .xo (cs 6) "no such orders" (.p 65), .xd [("place", .d x)], .xo (cs 6) "no such orders" (.p 67), .lst [.t [.p 66, .p 68, .d (.str "BadOrders")]], .lst [.t [.p 1, .p 3, .d (.str "BadPuzzle")], .t [.p 5, .p 7, .d (.str "BadWord")], .t [.p 10, .p 12, .d (.str "BadRecipe")], .t [.p 16, .p 18, .d (.str "BadLadder")], .t [.p 22, .p 24, .d (.str "BadPaper")], .t [.p 28, .p 30, .d (.str "BadPieces")], .t [.p 34, .p 36, .d (.str "BadGlue")], .t [.p 38, .p 40, .d (.str "BadWeb")], .t [.p 44, .p 46, .d (.str "BadText")], .t [.p 48, .p 50, .d (.str "BadDeed")], .t [.p 54, .p 56, .d (.str "BadStages")], .t [.p 60, .p 62, .d (.str "BadMacros")], .t [.p 66, .p 68, .d (.str "BadOrders")]], .xd [("place", .d x)], .xo (cs 14) "no such row" (.p 71), .xd [("place", .d x)], .xo (cs 14) "no such row" (.p 73), .xd [("place", .d x)], .xo (cs 17) "no such task" (.p 75), .xd [("place", .d x)], .xo (cs 17) "no such task" (.p 77), .lst [.t [.p 72, .p 74, .d (.str "BadRow")], .t [.p 76, .p 78, .d (.str "BadTask")]], .lst [.t [.p 1, .p 3, .d (.str "BadPuzzle")], .t [.p 5, .p 7, .d (.str "BadWord")], .t [.p 10, .p 12, .d (.str "BadRecipe")], .t [.p 16, .p 18, .d (.str "BadLadder")], .t [.p 22, .p 24, .d (.str "BadPaper")], .t [.p 28, .p 30, .d (.str "BadPieces")], .t [.p 34, .p 36, .d (.str "BadGlue")], .t [.p 38, .p 40, .d (.str "BadWeb")], .t [.p 44, .p 46, .d (.str "BadText")], .t [.p 48, .p 50, .d (.str "BadDeed")], .t [.p 54, .p 56, .d (.str "BadStages")], .t [.p 60, .p 62, .d (.str "BadMacros")], .t [.p 66, .p 68, .d (.str "BadOrders")], .t [.p 72, .p 74, .d (.str "BadRow")], .t [.p 76, .p 78, .d (.str "BadTask")]], .xd [("place", .d x)], .xo (cs 13) "no such replay" (.p 81)]) (ex_mkx w13 (ex_var 0)) rfl rfl) (ea_cons (ex_to (s := .p 84) (M2 := [.xd [("place", .d x)], .xo (cs 11) "no such puzzle" (.p 0), .xd [("place", .d x)], .xo (cs 11) "no such puzzle" (.p 2), .xd [("place", .d x)], .xo (cs 20) "no such word" (.p 4), .xd [("place", .d x)], .xo (cs 20) "no such word" (.p 6), .lst [.t [.p 1, .p 3, .d (.str "BadPuzzle")], .t [.p 5, .p 7, .d (.str "BadWord")]], .xd [("place", .d x)], .xo (cs 12) "no such recipe" (.p 9), .xd [("place", .d x)], .xo (cs 12) "no such recipe" (.p 11), .lst [.t [.p 10, .p 12, .d (.str "BadRecipe")]], .lst [.t [.p 1, .p 3, .d (.str "BadPuzzle")], .t [.p 5, .p 7, .d (.str "BadWord")], .t [.p 10, .p 12, .d (.str "BadRecipe")]], .xd [("place", .d x)], .xo (cs 3) "no such ladder" (.p 15), .xd [("place", .d x)], .xo (cs 3) "no such ladder" (.p 17), .lst [.t [.p 16, .p 18, .d (.str "BadLadder")]], .lst [.t [.p 1, .p 3, .d (.str "BadPuzzle")], .t [.p 5, .p 7, .d (.str "BadWord")], .t [.p 10, .p 12, .d (.str "BadRecipe")], .t [.p 16, .p 18, .d (.str "BadLadder")]], .xd [("place", .d x)], .xo (cs 7) "no such paper" (.p 21), .xd [("place", .d x)], .xo (cs 7) "no such paper" (.p 23), .lst [.t [.p 22, .p 24, .d (.str "BadPaper")]], .lst [.t [.p 1, .p 3, .d (.str "BadPuzzle")], .t [.p 5, .p 7, .d (.str "BadWord")], .t [.p 10, .p 12, .d (.str "BadRecipe")], .t [.p 16, .p 18, .d (.str "BadLadder")], .t [.p 22, .p 24, .d (.str "BadPaper")]], .xd [("place", .d x)], .xo (cs 9) "no such pieces" (.p 27), .xd [("place", .d x)], .xo (cs 9) "no such pieces" (.p 29), .lst [.t [.p 28, .p 30, .d (.str "BadPieces")]], .lst [.t [.p 1, .p 3, .d (.str "BadPuzzle")], .t [.p 5, .p 7, .d (.str "BadWord")], .t [.p 10, .p 12, .d (.str "BadRecipe")], .t [.p 16, .p 18, .d (.str "BadLadder")], .t [.p 22, .p 24, .d (.str "BadPaper")], .t [.p 28, .p 30, .d (.str "BadPieces")]], .xd [("place", .d x)], .xo (cs 2) "no such glue" (.p 33), .xd [("place", .d x)], .xo (cs 2) "no such glue" (.p 35), .xd [("place", .d x)], .xo (cs 19) "no such web" (.p 37), .xd [("place", .d x)], .xo (cs 19) "no such web" (.p 39), .lst [.t [.p 34, .p 36, .d (.str "BadGlue")], .t [.p 38, .p 40, .d (.str "BadWeb")]], .lst [.t [.p 1, .p 3, .d (.str "BadPuzzle")], .t [.p 5, .p 7, .d (.str "BadWord")], .t [.p 10, .p 12, .d (.str "BadRecipe")], .t [.p 16, .p 18, .d (.str "BadLadder")], .t [.p 22, .p 24, .d (.str "BadPaper")], .t [.p 28, .p 30, .d (.str "BadPieces")], .t [.p 34, .p 36, .d (.str "BadGlue")], .t [.p 38, .p 40, .d (.str "BadWeb")]], .xd [("place", .d x)], .xo (cs 18) "no such text" (.p 43), .xd [("place", .d x)], .xo (cs 18) "no such text" (.p 45), .xd [("place", .d x)], .xo (cs 1) "no such deed" (.p 47), .xd [("place", .d x)], .xo (cs 1) "no such deed" (.p 49), .lst [.t [.p 44, .p 46, .d (.str "BadText")], .t [.p 48, .p 50, .d (.str "BadDeed")]], .lst [.t [.p 1, .p 3, .d (.str "BadPuzzle")], .t [.p 5, .p 7, .d (.str "BadWord")], .t [.p 10, .p 12, .d (.str "BadRecipe")], .t [.p 16, .p 18, .d (.str "BadLadder")], .t [.p 22, .p 24, .d (.str "BadPaper")], .t [.p 28, .p 30, .d (.str "BadPieces")], .t [.p 34, .p 36, .d (.str "BadGlue")], .t [.p 38, .p 40, .d (.str "BadWeb")], .t [.p 44, .p 46, .d (.str "BadText")], .t [.p 48, .p 50, .d (.str "BadDeed")]], .xd [("place", .d x)], .xo (cs 15) "no such stages" (.p 53), .xd [("place", .d x)], .xo (cs 15) "no such stages" (.p 55), .lst [.t [.p 54, .p 56, .d (.str "BadStages")]], .lst [.t [.p 1, .p 3, .d (.str "BadPuzzle")], .t [.p 5, .p 7, .d (.str "BadWord")], .t [.p 10, .p 12, .d (.str "BadRecipe")], .t [.p 16, .p 18, .d (.str "BadLadder")], .t [.p 22, .p 24, .d (.str "BadPaper")], .t [.p 28, .p 30, .d (.str "BadPieces")], .t [.p 34, .p 36, .d (.str "BadGlue")], .t [.p 38, .p 40, .d (.str "BadWeb")], .t [.p 44, .p 46, .d (.str "BadText")], .t [.p 48, .p 50, .d (.str "BadDeed")], .t [.p 54, .p 56, .d (.str "BadStages")]], .xd [("place", .d x)], .xo (cs 4) "no such macros" (.p 59), .xd [("place", .d x)], .xo (cs 4) "no such macros" (.p 61), .lst [.t [.p 60, .p 62, .d (.str "BadMacros")]], .lst [.t [.p 1, .p 3, .d (.str "BadPuzzle")], .t [.p 5, .p 7, .d (.str "BadWord")], .t [.p 10, .p 12, .d (.str "BadRecipe")], .t [.p 16, .p 18, .d (.str "BadLadder")], .t [.p 22, .p 24, .d (.str "BadPaper")], .t [.p 28, .p 30, .d (.str "BadPieces")], .t [.p 34, .p 36, .d (.str "BadGlue")], .t [.p 38, .p 40, .d (.str "BadWeb")], .t [.p 44, .p 46, .d (.str "BadText")], .t [.p 48, .p 50, .d (.str "BadDeed")], .t [.p 54, .p 56, .d (.str "BadStages")], .t [.p 60, .p 62, .d (.str "BadMacros")]], .xd [("place", .d x)], .xo (cs 6) "no such orders" (.p 65), .xd [("place", .d x)], .xo (cs 6) "no such orders" (.p 67), .lst [.t [.p 66, .p 68, .d (.str "BadOrders")]], .lst [.t [.p 1, .p 3, .d (.str "BadPuzzle")], .t [.p 5, .p 7, .d (.str "BadWord")], .t [.p 10, .p 12, .d (.str "BadRecipe")], .t [.p 16, .p 18, .d (.str "BadLadder")], .t [.p 22, .p 24, .d (.str "BadPaper")], .t [.p 28, .p 30, .d (.str "BadPieces")], .t [.p 34, .p 36, .d (.str "BadGlue")], .t [.p 38, .p 40, .d (.str "BadWeb")], .t [.p 44, .p 46, .d (.str "BadText")], .t [.p 48, .p 50, .d (.str "BadDeed")], .t [.p 54, .p 56, .d (.str "BadStages")], .t [.p 60, .p 62, .d (.str "BadMacros")], .t [.p 66, .p 68, .d (.str "BadOrders")]], .xd [("place", .d x)], .xo (cs 14) "no such row" (.p 71), .xd [("place", .d x)], .xo (cs 14) "no such row" (.p 73), .xd [("place", .d x)], .xo (cs 17) "no such task" (.p 75), .xd [("place", .d x)], .xo (cs 17) "no such task" (.p 77), .lst [.t [.p 72, .p 74, .d (.str "BadRow")], .t [.p 76, .p 78, .d (.str "BadTask")]], .lst [.t [.p 1, .p 3, .d (.str "BadPuzzle")], .t [.p 5, .p 7, .d (.str "BadWord")], .t [.p 10, .p 12, .d (.str "BadRecipe")], .t [.p 16, .p 18, .d (.str "BadLadder")], .t [.p 22, .p 24, .d (.str "BadPaper")], .t [.p 28, .p 30, .d (.str "BadPieces")], .t [.p 34, .p 36, .d (.str "BadGlue")], .t [.p 38, .p 40, .d (.str "BadWeb")], .t [.p 44, .p 46, .d (.str "BadText")], .t [.p 48, .p 50, .d (.str "BadDeed")], .t [.p 54, .p 56, .d (.str "BadStages")], .t [.p 60, .p 62, .d (.str "BadMacros")], .t [.p 66, .p 68, .d (.str "BadOrders")], .t [.p 72, .p 74, .d (.str "BadRow")], .t [.p 76, .p 78, .d (.str "BadTask")]], .xd [("place", .d x)], .xo (cs 13) "no such replay" (.p 81), .xd [("place", .d x)], .xo (cs 13) "no such replay" (.p 83)]) (ex_mkxK w13 (ex_var 0)) rfl rfl) (ea_cons ex_str ea_nil))) (Nat.le_of_ble_eq_true rfl)) rfl rfl) (ea_nil)) (Nat.le_of_ble_eq_true rfl)) rfl rfl) (OS.to (os_cat (xs := [.t [.p 1, .p 3, .d (.str "BadPuzzle")], .t [.p 5, .p 7, .d (.str "BadWord")], .t [.p 10, .p 12, .d (.str "BadRecipe")], .t [.p 16, .p 18, .d (.str "BadLadder")], .t [.p 22, .p 24, .d (.str "BadPaper")], .t [.p 28, .p 30, .d (.str "BadPieces")], .t [.p 34, .p 36, .d (.str "BadGlue")], .t [.p 38, .p 40, .d (.str "BadWeb")], .t [.p 44, .p 46, .d (.str "BadText")], .t [.p 48, .p 50, .d (.str "BadDeed")], .t [.p 54, .p 56, .d (.str "BadStages")], .t [.p 60, .p 62, .d (.str "BadMacros")], .t [.p 66, .p 68, .d (.str "BadOrders")], .t [.p 72, .p 74, .d (.str "BadRow")], .t [.p 76, .p 78, .d (.str "BadTask")]]) (ys := [.t [.p 82, .p 84, .d (.str "BadReplay")]]) rfl rfl (Nat.le_of_ble_eq_true rfl)) (r' := .p 86) (M' := [.xd [("place", .d x)], .xo (cs 11) "no such puzzle" (.p 0), .xd [("place", .d x)], .xo (cs 11) "no such puzzle" (.p 2), .xd [("place", .d x)], .xo (cs 20) "no such word" (.p 4), .xd [("place", .d x)], .xo (cs 20) "no such word" (.p 6), .lst [.t [.p 1, .p 3, .d (.str "BadPuzzle")], .t [.p 5, .p 7, .d (.str "BadWord")]], .xd [("place", .d x)], .xo (cs 12) "no such recipe" (.p 9), .xd [("place", .d x)], .xo (cs 12) "no such recipe" (.p 11), .lst [.t [.p 10, .p 12, .d (.str "BadRecipe")]], .lst [.t [.p 1, .p 3, .d (.str "BadPuzzle")], .t [.p 5, .p 7, .d (.str "BadWord")], .t [.p 10, .p 12, .d (.str "BadRecipe")]], .xd [("place", .d x)], .xo (cs 3) "no such ladder" (.p 15), .xd [("place", .d x)], .xo (cs 3) "no such ladder" (.p 17), .lst [.t [.p 16, .p 18, .d (.str "BadLadder")]], .lst [.t [.p 1, .p 3, .d (.str "BadPuzzle")], .t [.p 5, .p 7, .d (.str "BadWord")], .t [.p 10, .p 12, .d (.str "BadRecipe")], .t [.p 16, .p 18, .d (.str "BadLadder")]], .xd [("place", .d x)], .xo (cs 7) "no such paper" (.p 21), .xd [("place", .d x)], .xo (cs 7) "no such paper" (.p 23), .lst [.t [.p 22, .p 24, .d (.str "BadPaper")]], .lst [.t [.p 1, .p 3, .d (.str "BadPuzzle")], .t [.p 5, .p 7, .d (.str "BadWord")], .t [.p 10, .p 12, .d (.str "BadRecipe")], .t [.p 16, .p 18, .d (.str "BadLadder")], .t [.p 22, .p 24, .d (.str "BadPaper")]], .xd [("place", .d x)], .xo (cs 9) "no such pieces" (.p 27), .xd [("place", .d x)], .xo (cs 9) "no such pieces" (.p 29), .lst [.t [.p 28, .p 30, .d (.str "BadPieces")]], .lst [.t [.p 1, .p 3, .d (.str "BadPuzzle")], .t [.p 5, .p 7, .d (.str "BadWord")], .t [.p 10, .p 12, .d (.str "BadRecipe")], .t [.p 16, .p 18, .d (.str "BadLadder")], .t [.p 22, .p 24, .d (.str "BadPaper")], .t [.p 28, .p 30, .d (.str "BadPieces")]], .xd [("place", .d x)], .xo (cs 2) "no such glue" (.p 33), .xd [("place", .d x)], .xo (cs 2) "no such glue" (.p 35), .xd [("place", .d x)], .xo (cs 19) "no such web" (.p 37), .xd [("place", .d x)], .xo (cs 19) "no such web" (.p 39), .lst [.t [.p 34, .p 36, .d (.str "BadGlue")], .t [.p 38, .p 40, .d (.str "BadWeb")]], .lst [.t [.p 1, .p 3, .d (.str "BadPuzzle")], .t [.p 5, .p 7, .d (.str "BadWord")], .t [.p 10, .p 12, .d (.str "BadRecipe")], .t [.p 16, .p 18, .d (.str "BadLadder")], .t [.p 22, .p 24, .d (.str "BadPaper")], .t [.p 28, .p 30, .d (.str "BadPieces")], .t [.p 34, .p 36, .d (.str "BadGlue")], .t [.p 38, .p 40, .d (.str "BadWeb")]], .xd [("place", .d x)], .xo (cs 18) "no such text" (.p 43), .xd [("place", .d x)], .xo (cs 18) "no such text" (.p 45), .xd [("place", .d x)], .xo (cs 1) "no such deed" (.p 47), .xd [("place", .d x)], .xo (cs 1) "no such deed" (.p 49), .lst [.t [.p 44, .p 46, .d (.str "BadText")], .t [.p 48, .p 50, .d (.str "BadDeed")]], .lst [.t [.p 1, .p 3, .d (.str "BadPuzzle")], .t [.p 5, .p 7, .d (.str "BadWord")], .t [.p 10, .p 12, .d (.str "BadRecipe")], .t [.p 16, .p 18, .d (.str "BadLadder")], .t [.p 22, .p 24, .d (.str "BadPaper")], .t [.p 28, .p 30, .d (.str "BadPieces")], .t [.p 34, .p 36, .d (.str "BadGlue")], .t [.p 38, .p 40, .d (.str "BadWeb")], .t [.p 44, .p 46, .d (.str "BadText")], .t [.p 48, .p 50, .d (.str "BadDeed")]], .xd [("place", .d x)], .xo (cs 15) "no such stages" (.p 53), .xd [("place", .d x)], .xo (cs 15) "no such stages" (.p 55), .lst [.t [.p 54, .p 56, .d (.str "BadStages")]], .lst [.t [.p 1, .p 3, .d (.str "BadPuzzle")], .t [.p 5, .p 7, .d (.str "BadWord")], .t [.p 10, .p 12, .d (.str "BadRecipe")], .t [.p 16, .p 18, .d (.str "BadLadder")], .t [.p 22, .p 24, .d (.str "BadPaper")], .t [.p 28, .p 30, .d (.str "BadPieces")], .t [.p 34, .p 36, .d (.str "BadGlue")], .t [.p 38, .p 40, .d (.str "BadWeb")], .t [.p 44, .p 46, .d (.str "BadText")], .t [.p 48, .p 50, .d (.str "BadDeed")], .t [.p 54, .p 56, .d (.str "BadStages")]], .xd [("place", .d x)], .xo (cs 4) "no such macros" (.p 59), .xd [("place", .d x)], .xo (cs 4) "no such macros" (.p 61), .lst [.t [.p 60, .p 62, .d (.str "BadMacros")]], .lst [.t [.p 1, .p 3, .d (.str "BadPuzzle")], .t [.p 5, .p 7, .d (.str "BadWord")], .t [.p 10, .p 12, .d (.str "BadRecipe")], .t [.p 16, .p 18, .d (.str "BadLadder")], .t [.p 22, .p 24, .d (.str "BadPaper")], .t [.p 28, .p 30, .d (.str "BadPieces")], .t [.p 34, .p 36, .d (.str "BadGlue")], .t [.p 38, .p 40, .d (.str "BadWeb")], .t [.p 44, .p 46, .d (.str "BadText")], .t [.p 48, .p 50, .d (.str "BadDeed")], .t [.p 54, .p 56, .d (.str "BadStages")], .t [.p 60, .p 62, .d (.str "BadMacros")]], .xd [("place", .d x)], .xo (cs 6) "no such orders" (.p 65), .xd [("place", .d x)], .xo (cs 6) "no such orders" (.p 67), .lst [.t [.p 66, .p 68, .d (.str "BadOrders")]], .lst [.t [.p 1, .p 3, .d (.str "BadPuzzle")], .t [.p 5, .p 7, .d (.str "BadWord")], .t [.p 10, .p 12, .d (.str "BadRecipe")], .t [.p 16, .p 18, .d (.str "BadLadder")], .t [.p 22, .p 24, .d (.str "BadPaper")], .t [.p 28, .p 30, .d (.str "BadPieces")], .t [.p 34, .p 36, .d (.str "BadGlue")], .t [.p 38, .p 40, .d (.str "BadWeb")], .t [.p 44, .p 46, .d (.str "BadText")], .t [.p 48, .p 50, .d (.str "BadDeed")], .t [.p 54, .p 56, .d (.str "BadStages")], .t [.p 60, .p 62, .d (.str "BadMacros")], .t [.p 66, .p 68, .d (.str "BadOrders")]], .xd [("place", .d x)], .xo (cs 14) "no such row" (.p 71), .xd [("place", .d x)], .xo (cs 14) "no such row" (.p 73), .xd [("place", .d x)], .xo (cs 17) "no such task" (.p 75), .xd [("place", .d x)], .xo (cs 17) "no such task" (.p 77), .lst [.t [.p 72, .p 74, .d (.str "BadRow")], .t [.p 76, .p 78, .d (.str "BadTask")]], .lst [.t [.p 1, .p 3, .d (.str "BadPuzzle")], .t [.p 5, .p 7, .d (.str "BadWord")], .t [.p 10, .p 12, .d (.str "BadRecipe")], .t [.p 16, .p 18, .d (.str "BadLadder")], .t [.p 22, .p 24, .d (.str "BadPaper")], .t [.p 28, .p 30, .d (.str "BadPieces")], .t [.p 34, .p 36, .d (.str "BadGlue")], .t [.p 38, .p 40, .d (.str "BadWeb")], .t [.p 44, .p 46, .d (.str "BadText")], .t [.p 48, .p 50, .d (.str "BadDeed")], .t [.p 54, .p 56, .d (.str "BadStages")], .t [.p 60, .p 62, .d (.str "BadMacros")], .t [.p 66, .p 68, .d (.str "BadOrders")], .t [.p 72, .p 74, .d (.str "BadRow")], .t [.p 76, .p 78, .d (.str "BadTask")]], .xd [("place", .d x)], .xo (cs 13) "no such replay" (.p 81), .xd [("place", .d x)], .xo (cs 13) "no such replay" (.p 83), .lst [.t [.p 82, .p 84, .d (.str "BadReplay")]], .lst [.t [.p 1, .p 3, .d (.str "BadPuzzle")], .t [.p 5, .p 7, .d (.str "BadWord")], .t [.p 10, .p 12, .d (.str "BadRecipe")], .t [.p 16, .p 18, .d (.str "BadLadder")], .t [.p 22, .p 24, .d (.str "BadPaper")], .t [.p 28, .p 30, .d (.str "BadPieces")], .t [.p 34, .p 36, .d (.str "BadGlue")], .t [.p 38, .p 40, .d (.str "BadWeb")], .t [.p 44, .p 46, .d (.str "BadText")], .t [.p 48, .p 50, .d (.str "BadDeed")], .t [.p 54, .p 56, .d (.str "BadStages")], .t [.p 60, .p 62, .d (.str "BadMacros")], .t [.p 66, .p 68, .d (.str "BadOrders")], .t [.p 72, .p 74, .d (.str "BadRow")], .t [.p 76, .p 78, .d (.str "BadTask")], .t [.p 82, .p 84, .d (.str "BadReplay")]]]) rfl rfl)
                        · refine bx_cons ?_
                          apply sx_set 1
                          · exact ex_bin (ex_var 1) (ex_to (s := .p 91) (M2 := [.xd [("place", .d x)], .xo (cs 11) "no such puzzle" (.p 0), .xd [("place", .d x)], .xo (cs 11) "no such puzzle" (.p 2), .xd [("place", .d x)], .xo (cs 20) "no such word" (.p 4), .xd [("place", .d x)], .xo (cs 20) "no such word" (.p 6), .lst [.t [.p 1, .p 3, .d (.str "BadPuzzle")], .t [.p 5, .p 7, .d (.str "BadWord")]], .xd [("place", .d x)], .xo (cs 12) "no such recipe" (.p 9), .xd [("place", .d x)], .xo (cs 12) "no such recipe" (.p 11), .lst [.t [.p 10, .p 12, .d (.str "BadRecipe")]], .lst [.t [.p 1, .p 3, .d (.str "BadPuzzle")], .t [.p 5, .p 7, .d (.str "BadWord")], .t [.p 10, .p 12, .d (.str "BadRecipe")]], .xd [("place", .d x)], .xo (cs 3) "no such ladder" (.p 15), .xd [("place", .d x)], .xo (cs 3) "no such ladder" (.p 17), .lst [.t [.p 16, .p 18, .d (.str "BadLadder")]], .lst [.t [.p 1, .p 3, .d (.str "BadPuzzle")], .t [.p 5, .p 7, .d (.str "BadWord")], .t [.p 10, .p 12, .d (.str "BadRecipe")], .t [.p 16, .p 18, .d (.str "BadLadder")]], .xd [("place", .d x)], .xo (cs 7) "no such paper" (.p 21), .xd [("place", .d x)], .xo (cs 7) "no such paper" (.p 23), .lst [.t [.p 22, .p 24, .d (.str "BadPaper")]], .lst [.t [.p 1, .p 3, .d (.str "BadPuzzle")], .t [.p 5, .p 7, .d (.str "BadWord")], .t [.p 10, .p 12, .d (.str "BadRecipe")], .t [.p 16, .p 18, .d (.str "BadLadder")], .t [.p 22, .p 24, .d (.str "BadPaper")]], .xd [("place", .d x)], .xo (cs 9) "no such pieces" (.p 27), .xd [("place", .d x)], .xo (cs 9) "no such pieces" (.p 29), .lst [.t [.p 28, .p 30, .d (.str "BadPieces")]], .lst [.t [.p 1, .p 3, .d (.str "BadPuzzle")], .t [.p 5, .p 7, .d (.str "BadWord")], .t [.p 10, .p 12, .d (.str "BadRecipe")], .t [.p 16, .p 18, .d (.str "BadLadder")], .t [.p 22, .p 24, .d (.str "BadPaper")], .t [.p 28, .p 30, .d (.str "BadPieces")]], .xd [("place", .d x)], .xo (cs 2) "no such glue" (.p 33), .xd [("place", .d x)], .xo (cs 2) "no such glue" (.p 35), .xd [("place", .d x)], .xo (cs 19) "no such web" (.p 37), .xd [("place", .d x)], .xo (cs 19) "no such web" (.p 39), .lst [.t [.p 34, .p 36, .d (.str "BadGlue")], .t [.p 38, .p 40, .d (.str "BadWeb")]], .lst [.t [.p 1, .p 3, .d (.str "BadPuzzle")], .t [.p 5, .p 7, .d (.str "BadWord")], .t [.p 10, .p 12, .d (.str "BadRecipe")], .t [.p 16, .p 18, .d (.str "BadLadder")], .t [.p 22, .p 24, .d (.str "BadPaper")], .t [.p 28, .p 30, .d (.str "BadPieces")], .t [.p 34, .p 36, .d (.str "BadGlue")], .t [.p 38, .p 40, .d (.str "BadWeb")]], .xd [("place", .d x)], .xo (cs 18) "no such text" (.p 43), .xd [("place", .d x)], .xo (cs 18) "no such text" (.p 45), .xd [("place", .d x)], .xo (cs 1) "no such deed" (.p 47), .xd [("place", .d x)], .xo (cs 1) "no such deed" (.p 49), .lst [.t [.p 44, .p 46, .d (.str "BadText")], .t [.p 48, .p 50, .d (.str "BadDeed")]], .lst [.t [.p 1, .p 3, .d (.str "BadPuzzle")], .t [.p 5, .p 7, .d (.str "BadWord")], .t [.p 10, .p 12, .d (.str "BadRecipe")], .t [.p 16, .p 18, .d (.str "BadLadder")], .t [.p 22, .p 24, .d (.str "BadPaper")], .t [.p 28, .p 30, .d (.str "BadPieces")], .t [.p 34, .p 36, .d (.str "BadGlue")], .t [.p 38, .p 40, .d (.str "BadWeb")], .t [.p 44, .p 46, .d (.str "BadText")], .t [.p 48, .p 50, .d (.str "BadDeed")]], .xd [("place", .d x)], .xo (cs 15) "no such stages" (.p 53), .xd [("place", .d x)], .xo (cs 15) "no such stages" (.p 55), .lst [.t [.p 54, .p 56, .d (.str "BadStages")]], .lst [.t [.p 1, .p 3, .d (.str "BadPuzzle")], .t [.p 5, .p 7, .d (.str "BadWord")], .t [.p 10, .p 12, .d (.str "BadRecipe")], .t [.p 16, .p 18, .d (.str "BadLadder")], .t [.p 22, .p 24, .d (.str "BadPaper")], .t [.p 28, .p 30, .d (.str "BadPieces")], .t [.p 34, .p 36, .d (.str "BadGlue")], .t [.p 38, .p 40, .d (.str "BadWeb")], .t [.p 44, .p 46, .d (.str "BadText")], .t [.p 48, .p 50, .d (.str "BadDeed")], .t [.p 54, .p 56, .d (.str "BadStages")]], .xd [("place", .d x)], .xo (cs 4) "no such macros" (.p 59), .xd [("place", .d x)], .xo (cs 4) "no such macros" (.p 61), .lst [.t [.p 60, .p 62, .d (.str "BadMacros")]], .lst [.t [.p 1, .p 3, .d (.str "BadPuzzle")], .t [.p 5, .p 7, .d (.str "BadWord")], .t [.p 10, .p 12, .d (.str "BadRecipe")], .t [.p 16, .p 18, .d (.str "BadLadder")], .t [.p 22, .p 24, .d (.str "BadPaper")], .t [.p 28, .p 30, .d (.str "BadPieces")], .t [.p 34, .p 36, .d (.str "BadGlue")], .t [.p 38, .p 40, .d (.str "BadWeb")], .t [.p 44, .p 46, .d (.str "BadText")], .t [.p 48, .p 50, .d (.str "BadDeed")], .t [.p 54, .p 56, .d (.str "BadStages")], .t [.p 60, .p 62, .d (.str "BadMacros")]], .xd [("place", .d x)], .xo (cs 6) "no such orders" (.p 65), .xd [("place", .d x)], .xo (cs 6) "no such orders" (.p 67), .lst [.t [.p 66, .p 68, .d (.str "BadOrders")]], .lst [.t [.p 1, .p 3, .d (.str "BadPuzzle")], .t [.p 5, .p 7, .d (.str "BadWord")], .t [.p 10, .p 12, .d (.str "BadRecipe")], .t [.p 16, .p 18, .d (.str "BadLadder")], .t [.p 22, .p 24, .d (.str "BadPaper")], .t [.p 28, .p 30, .d (.str "BadPieces")], .t [.p 34, .p 36, .d (.str "BadGlue")], .t [.p 38, .p 40, .d (.str "BadWeb")], .t [.p 44, .p 46, .d (.str "BadText")], .t [.p 48, .p 50, .d (.str "BadDeed")], .t [.p 54, .p 56, .d (.str "BadStages")], .t [.p 60, .p 62, .d (.str "BadMacros")], .t [.p 66, .p 68, .d (.str "BadOrders")]], .xd [("place", .d x)], .xo (cs 14) "no such row" (.p 71), .xd [("place", .d x)], .xo (cs 14) "no such row" (.p 73), .xd [("place", .d x)], .xo (cs 17) "no such task" (.p 75), .xd [("place", .d x)], .xo (cs 17) "no such task" (.p 77), .lst [.t [.p 72, .p 74, .d (.str "BadRow")], .t [.p 76, .p 78, .d (.str "BadTask")]], .lst [.t [.p 1, .p 3, .d (.str "BadPuzzle")], .t [.p 5, .p 7, .d (.str "BadWord")], .t [.p 10, .p 12, .d (.str "BadRecipe")], .t [.p 16, .p 18, .d (.str "BadLadder")], .t [.p 22, .p 24, .d (.str "BadPaper")], .t [.p 28, .p 30, .d (.str "BadPieces")], .t [.p 34, .p 36, .d (.str "BadGlue")], .t [.p 38, .p 40, .d (.str "BadWeb")], .t [.p 44, .p 46, .d (.str "BadText")], .t [.p 48, .p 50, .d (.str "BadDeed")], .t [.p 54, .p 56, .d (.str "BadStages")], .t [.p 60, .p 62, .d (.str "BadMacros")], .t [.p 66, .p 68, .d (.str "BadOrders")], .t [.p 72, .p 74, .d (.str "BadRow")], .t [.p 76, .p 78, .d (.str "BadTask")]], .xd [("place", .d x)], .xo (cs 13) "no such replay" (.p 81), .xd [("place", .d x)], .xo (cs 13) "no such replay" (.p 83), .lst [.t [.p 82, .p 84, .d (.str "BadReplay")]], .lst [.t [.p 1, .p 3, .d (.str "BadPuzzle")], .t [.p 5, .p 7, .d (.str "BadWord")], .t [.p 10, .p 12, .d (.str "BadRecipe")], .t [.p 16, .p 18, .d (.str "BadLadder")], .t [.p 22, .p 24, .d (.str "BadPaper")], .t [.p 28, .p 30, .d (.str "BadPieces")], .t [.p 34, .p 36, .d (.str "BadGlue")], .t [.p 38, .p 40, .d (.str "BadWeb")], .t [.p 44, .p 46, .d (.str "BadText")], .t [.p 48, .p 50, .d (.str "BadDeed")], .t [.p 54, .p 56, .d (.str "BadStages")], .t [.p 60, .p 62, .d (.str "BadMacros")], .t [.p 66, .p 68, .d (.str "BadOrders")], .t [.p 72, .p 74, .d (.str "BadRow")], .t [.p 76, .p 78, .d (.str "BadTask")], .t [.p 82, .p 84, .d (.str "BadReplay")]], .xd [("place", .d x)], .xo (cs 10) "no such prices" (.p 87), .xd [("place", .d x)], .xo (cs 10) "no such prices" (.p 89), .lst [.t [.p 88, .p 90, .d (.str "BadPrices")]]]) (ex_list (ea_cons (ex_to (s := .t [.p 88, .p 90, .d (.str "BadPrices")]) (M2 := [.xd [("place", .d x)], .xo (cs 11) "no such puzzle" (.p 0), .xd [("place", .d x)], .xo (cs 11) "no such puzzle" (.p 2), .xd [("place", .d x)], .xo (cs 20) "no such word" (.p 4), .xd [("place", .d x)], .xo (cs 20) "no such word" (.p 6), .lst [.t [.p 1, .p 3, .d (.str "BadPuzzle")], .t [.p 5, .p 7, .d (.str "BadWord")]], .xd [("place", .d x)], .xo (cs 12) "no such recipe" (.p 9), .xd [("place", .d x)], .xo (cs 12) "no such recipe" (.p 11), .lst [.t [.p 10, .p 12, .d (.str "BadRecipe")]], .lst [.t [.p 1, .p 3, .d (.str "BadPuzzle")], .t [.p 5, .p 7, .d (.str "BadWord")], .t [.p 10, .p 12, .d (.str "BadRecipe")]], .xd [("place", .d x)], .xo (cs 3) "no such ladder" (.p 15), .xd [("place", .d x)], .xo (cs 3) "no such ladder" (.p 17), .lst [.t [.p 16, .p 18, .d (.str "BadLadder")]], .lst [.t [.p 1, .p 3, .d (.str "BadPuzzle")], .t [.p 5, .p 7, .d (.str "BadWord")], .t [.p 10, .p 12, .d (.str "BadRecipe")], .t [.p 16, .p 18, .d (.str "BadLadder")]], .xd [("place", .d x)], .xo (cs 7) "no such paper" (.p 21), .xd [("place", .d x)], .xo (cs 7) "no such paper" (.p 23), .lst [.t [.p 22, .p 24, .d (.str "BadPaper")]], .lst [.t [.p 1, .p 3, .d (.str "BadPuzzle")], .t [.p 5, .p 7, .d (.str "BadWord")], .t [.p 10, .p 12, .d (.str "BadRecipe")], .t [.p 16, .p 18, .d (.str "BadLadder")], .t [.p 22, .p 24, .d (.str "BadPaper")]], .xd [("place", .d x)], .xo (cs 9) "no such pieces" (.p 27), .xd [("place", .d x)], .xo (cs 9) "no such pieces" (.p 29), .lst [.t [.p 28, .p 30, .d (.str "BadPieces")]], .lst [.t [.p 1, .p 3, .d (.str "BadPuzzle")], .t [.p 5, .p 7, .d (.str "BadWord")], .t [.p 10, .p 12, .d (.str "BadRecipe")], .t [.p 16, .p 18, .d (.str "BadLadder")], .t [.p 22, .p 24, .d (.str "BadPaper")], .t [.p 28, .p 30, .d (.str "BadPieces")]], .xd [("place", .d x)], .xo (cs 2) "no such glue" (.p 33), .xd [("place", .d x)], .xo (cs 2) "no such glue" (.p 35), .xd [("place", .d x)], .xo (cs 19) "no such web" (.p 37), .xd [("place", .d x)], .xo (cs 19) "no such web" (.p 39), .lst [.t [.p 34, .p 36, .d (.str "BadGlue")], .t [.p 38, .p 40, .d (.str "BadWeb")]], .lst [.t [.p 1, .p 3, .d (.str "BadPuzzle")], .t [.p 5, .p 7, .d (.str "BadWord")], .t [.p 10, .p 12, .d (.str "BadRecipe")], .t [.p 16, .p 18, .d (.str "BadLadder")], .t [.p 22, .p 24, .d (.str "BadPaper")], .t [.p 28, .p 30, .d (.str "BadPieces")], .t [.p 34, .p 36, .d (.str "BadGlue")], .t [.p 38, .p 40, .d (.str "BadWeb")]], .xd [("place", .d x)], .xo (cs 18) "no such text" (.p 43), .xd [("place", .d x)], .xo (cs 18) "no such text" (.p 45), .xd [("place", .d x)], .xo (cs 1) "no such deed" (.p 47), .xd [("place", .d x)], .xo (cs 1) "no such deed" (.p 49), .lst [.t [.p 44, .p 46, .d (.str "BadText")], .t [.p 48, .p 50, .d (.str "BadDeed")]], .lst [.t [.p 1, .p 3, .d (.str "BadPuzzle")], .t [.p 5, .p 7, .d (.str "BadWord")], .t [.p 10, .p 12, .d (.str "BadRecipe")], .t [.p 16, .p 18, .d (.str "BadLadder")], .t [.p 22, .p 24, .d (.str "BadPaper")], .t [.p 28, .p 30, .d (.str "BadPieces")], .t [.p 34, .p 36, .d (.str "BadGlue")], .t [.p 38, .p 40, .d (.str "BadWeb")], .t [.p 44, .p 46, .d (.str "BadText")], .t [.p 48, .p 50, .d (.str "BadDeed")]], .xd [("place", .d x)], .xo (cs 15) "no such stages" (.p 53), .xd [("place", .d x)], .xo (cs 15) "no such stages" (.p 55), .lst [.t [.p 54, .p 56, .d (.str "BadStages")]], .lst [.t [.p 1, .p 3, .d (.str "BadPuzzle")], .t [.p 5, .p 7, .d (.str "BadWord")], .t [.p 10, .p 12, .d (.str "BadRecipe")], .t [.p 16, .p 18, .d (.str "BadLadder")], .t [.p 22, .p 24, .d (.str "BadPaper")], .t [.p 28, .p 30, .d (.str "BadPieces")], .t [.p 34, .p 36, .d (.str "BadGlue")], .t [.p 38, .p 40, .d (.str "BadWeb")], .t [.p 44, .p 46, .d (.str "BadText")], .t [.p 48, .p 50, .d (.str "BadDeed")], .t [.p 54, .p 56, .d (.str "BadStages")]], .xd [("place", .d x)], .xo (cs 4) "no such macros" (.p 59), .xd [("place", .d x)], .xo (cs 4) "no such macros" (.p 61), .lst [.t [.p 60, .p 62, .d (.str "BadMacros")]], .lst [.t [.p 1, .p 3, .d (.str "BadPuzzle")], .t [.p 5, .p 7, .d (.str "BadWord")], .t [.p 10, .p 12, .d (.str "BadRecipe")], .t [.p 16, .p 18, .d (.str "BadLadder")], .t [.p 22, .p 24, .d (.str "BadPaper")], .t [.p 28, .p 30, .d (.str "BadPieces")], .t [.p 34, .p 36, .d (.str "BadGlue")], .t [.p 38, .p 40, .d (.str "BadWeb")], .t [.p 44, .p 46, .d (.str "BadText")], .t [.p 48, .p 50, .d (.str "BadDeed")], .t [.p 54, .p 56, .d (.str "BadStages")], .t [.p 60, .p 62, .d (.str "BadMacros")]], .xd [("place", .d x)], .xo (cs 6) "no such orders" (.p 65), .xd [("place", .d x)], .xo (cs 6) "no such orders" (.p 67), .lst [.t [.p 66, .p 68, .d (.str "BadOrders")]], .lst [.t [.p 1, .p 3, .d (.str "BadPuzzle")], .t [.p 5, .p 7, .d (.str "BadWord")], .t [.p 10, .p 12, .d (.str "BadRecipe")], .t [.p 16, .p 18, .d (.str "BadLadder")], .t [.p 22, .p 24, .d (.str "BadPaper")], .t [.p 28, .p 30, .d (.str "BadPieces")], .t [.p 34, .p 36, .d (.str "BadGlue")], .t [.p 38, .p 40, .d (.str "BadWeb")], .t [.p 44, .p 46, .d (.str "BadText")], .t [.p 48, .p 50, .d (.str "BadDeed")], .t [.p 54, .p 56, .d (.str "BadStages")], .t [.p 60, .p 62, .d (.str "BadMacros")], .t [.p 66, .p 68, .d (.str "BadOrders")]], .xd [("place", .d x)], .xo (cs 14) "no such row" (.p 71), .xd [("place", .d x)], .xo (cs 14) "no such row" (.p 73), .xd [("place", .d x)], .xo (cs 17) "no such task" (.p 75), .xd [("place", .d x)], .xo (cs 17) "no such task" (.p 77), .lst [.t [.p 72, .p 74, .d (.str "BadRow")], .t [.p 76, .p 78, .d (.str "BadTask")]], .lst [.t [.p 1, .p 3, .d (.str "BadPuzzle")], .t [.p 5, .p 7, .d (.str "BadWord")], .t [.p 10, .p 12, .d (.str "BadRecipe")], .t [.p 16, .p 18, .d (.str "BadLadder")], .t [.p 22, .p 24, .d (.str "BadPaper")], .t [.p 28, .p 30, .d (.str "BadPieces")], .t [.p 34, .p 36, .d (.str "BadGlue")], .t [.p 38, .p 40, .d (.str "BadWeb")], .t [.p 44, .p 46, .d (.str "BadText")], .t [.p 48, .p 50, .d (.str "BadDeed")], .t [.p 54, .p 56, .d (.str "BadStages")], .t [.p 60, .p 62, .d (.str "BadMacros")], .t [.p 66, .p 68, .d (.str "BadOrders")], .t [.p 72, .p 74, .d (.str "BadRow")], .t [.p 76, .p 78, .d (.str "BadTask")]], .xd [("place", .d x)], .xo (cs 13) "no such replay" (.p 81), .xd [("place", .d x)], .xo (cs 13) "no such replay" (.p 83), .lst [.t [.p 82, .p 84, .d (.str "BadReplay")]], .lst [.t [.p 1, .p 3, .d (.str "BadPuzzle")], .t [.p 5, .p 7, .d (.str "BadWord")], .t [.p 10, .p 12, .d (.str "BadRecipe")], .t [.p 16, .p 18, .d (.str "BadLadder")], .t [.p 22, .p 24, .d (.str "BadPaper")], .t [.p 28, .p 30, .d (.str "BadPieces")], .t [.p 34, .p 36, .d (.str "BadGlue")], .t [.p 38, .p 40, .d (.str "BadWeb")], .t [.p 44, .p 46, .d (.str "BadText")], .t [.p 48, .p 50, .d (.str "BadDeed")], .t [.p 54, .p 56, .d (.str "BadStages")], .t [.p 60, .p 62, .d (.str "BadMacros")], .t [.p 66, .p 68, .d (.str "BadOrders")], .t [.p 72, .p 74, .d (.str "BadRow")], .t [.p 76, .p 78, .d (.str "BadTask")], .t [.p 82, .p 84, .d (.str "BadReplay")]], .xd [("place", .d x)], .xo (cs 10) "no such prices" (.p 87), .xd [("place", .d x)], .xo (cs 10) "no such prices" (.p 89)]) (ex_tup (ea_cons (ex_to (s := .p 88) (M2 := [.xd [("place", .d x)], .xo (cs 11) "no such puzzle" (.p 0), .xd [("place", .d x)], .xo (cs 11) "no such puzzle" (.p 2), .xd [("place", .d x)], .xo (cs 20) "no such word" (.p 4), .xd [("place", .d x)], .xo (cs 20) "no such word" (.p 6), .lst [.t [.p 1, .p 3, .d (.str "BadPuzzle")], .t [.p 5, .p 7, .d (.str "BadWord")]], .xd [("place", .d x)], .xo (cs 12) "no such recipe" (.p 9), .xd [("place", .d x)], .xo (cs 12) "no such recipe" (.p 11), .lst [.t [.p 10, .p 12, .d (.str "BadRecipe")]], .lst [.t [.p 1, .p 3, .d (.str "BadPuzzle")], .t [.p 5, .p 7, .d (.str "BadWord")], .t [.p 10, .p 12, .d (.str "BadRecipe")]], .xd [("place", .d x)], .xo (cs 3) "no such ladder" (.p 15), .xd [("place", .d x)], .xo (cs 3) "no such ladder" (.p 17), .lst [.t [.p 16, .p 18, .d (.str "BadLadder")]], .lst [.t [.p 1, .p 3, .d (.str "BadPuzzle")], .t [.p 5, .p 7, .d (.str "BadWord")], .t [.p 10, .p 12, .d (.str "BadRecipe")], .t [.p 16, .p 18, .d (.str "BadLadder")]], .xd [("place", .d x)], .xo (cs 7) "no such paper" (.p 21), .xd [("place", .d x)], .xo (cs 7) "no such paper" (.p 23), .lst [.t [.p 22, .p 24, .d (.str "BadPaper")]], .lst [.t [.p 1, .p 3, .d (.str "BadPuzzle")], .t [.p 5, .p 7, .d (.str "BadWord")], .t [.p 10, .p 12, .d (.str "BadRecipe")], .t [.p 16, .p 18, .d (.str "BadLadder")], .t [.p 22, .p 24, .d (.str "BadPaper")]], .xd [("place", .d x)], .xo (cs 9) "no such pieces" (.p 27), .xd [("place", .d x)], .xo (cs 9) "no such pieces" (.p 29), .lst [.t [.p 28, .p 30, .d (.str "BadPieces")]], .lst [.t [.p 1, .p 3, .d (.str "BadPuzzle")], .t [.p 5, .p 7, .d (.str "BadWord")], .t [.p 10, .p 12, .d (.str "BadRecipe")], .t [.p 16, .p 18, .d (.str "BadLadder")], .t [.p 22, .p 24, .d (.str "BadPaper")], .t [.p 28, .p 30, .d (.str "BadPieces")]], .xd [("place", .d x)], .xo (cs 2) "no such glue" (.p 33), .xd [("place", .d x)], .xo (cs 2) "no such glue" (.p 35), .xd [("place", .d x)], .xo (cs 19) "no such web" (.p 37), .xd [("place", .d x)], .xo (cs 19) "no such web" (.p 39), .lst [.t [.p 34, .p 36, .d (.str "BadGlue")], .t [.p 38, .p 40, .d (.str "BadWeb")]], .lst [.t [.p 1, .p 3, .d (.str "BadPuzzle")], .t [.p 5, .p 7, .d (.str "BadWord")], .t [.p 10, .p 12, .d (.str "BadRecipe")], .t [.p 16, .p 18, .d (.str "BadLadder")], .t [.p 22, .p 24, .d (.str "BadPaper")], .t [.p 28, .p 30, .d (.str "BadPieces")], .t [.p 34, .p 36, .d (.str "BadGlue")], .t [.p 38, .p 40, .d (.str "BadWeb")]], .xd [("place", .d x)], .xo (cs 18) "no such text" (.p 43), .xd [("place", .d x)], .xo (cs 18) "no such text" (.p 45), .xd [("place", .d x)], .xo (cs 1) "no such deed" (.p 47), .xd [("place", .d x)], .xo (cs 1) "no such deed" (.p 49), .lst [.t [.p 44, .p 46, .d (.str "BadText")], .t [.p 48, .p 50, .d (.str "BadDeed")]], .lst [.t [.p 1, .p 3, .d (.str "BadPuzzle")], .t [.p 5, .p 7, .d (.str "BadWord")], .t [.p 10, .p 12, .d (.str "BadRecipe")], .t [.p 16, .p 18, .d (.str "BadLadder")], .t [.p 22, .p 24, .d (.str "BadPaper")], .t [.p 28, .p 30, .d (.str "BadPieces")], .t [.p 34, .p 36, .d (.str "BadGlue")], .t [.p 38, .p 40, .d (.str "BadWeb")], .t [.p 44, .p 46, .d (.str "BadText")], .t [.p 48, .p 50, .d (.str "BadDeed")]], .xd [("place", .d x)], .xo (cs 15) "no such stages" (.p 53), .xd [("place", .d x)], .xo (cs 15) "no such stages" (.p 55), .lst [.t [.p 54, .p 56, .d (.str "BadStages")]], .lst [.t [.p 1, .p 3, .d (.str "BadPuzzle")], .t [.p 5, .p 7, .d (.str "BadWord")], .t [.p 10, .p 12, .d (.str "BadRecipe")], .t [.p 16, .p 18, .d (.str "BadLadder")], .t [.p 22, .p 24, .d (.str "BadPaper")], .t [.p 28, .p 30, .d (.str "BadPieces")], .t [.p 34, .p 36, .d (.str "BadGlue")], .t [.p 38, .p 40, .d (.str "BadWeb")], .t [.p 44, .p 46, .d (.str "BadText")], .t [.p 48, .p 50, .d (.str "BadDeed")], .t [.p 54, .p 56, .d (.str "BadStages")]], .xd [("place", .d x)], .xo (cs 4) "no such macros" (.p 59), .xd [("place", .d x)], .xo (cs 4) "no such macros" (.p 61), .lst [.t [.p 60, .p 62, .d (.str "BadMacros")]], .lst [.t [.p 1, .p 3, .d (.str "BadPuzzle")], .t [.p 5, .p 7, .d (.str "BadWord")], .t [.p 10, .p 12, .d (.str "BadRecipe")], .t [.p 16, .p 18, .d (.str "BadLadder")], .t [.p 22, .p 24, .d (.str "BadPaper")], .t [.p 28, .p 30, .d (.str "BadPieces")], .t [.p 34, .p 36, .d (.str "BadGlue")], .t [.p 38, .p 40, .d (.str "BadWeb")], .t [.p 44, .p 46, .d (.str "BadText")], .t [.p 48, .p 50, .d (.str "BadDeed")], .t [.p 54, .p 56, .d (.str "BadStages")], .t [.p 60, .p 62, .d (.str "BadMacros")]], .xd [("place", .d x)], .xo (cs 6) "no such orders" (.p 65), .xd [("place", .d x)], .xo (cs 6) "no such orders" (.p 67), .lst [.t [.p 66, .p 68, .d (.str "BadOrders")]], .lst [.t [.p 1, .p 3, .d (.str "BadPuzzle")], .t [.p 5, .p 7, .d (.str "BadWord")], .t [.p 10, .p 12, .d (.str "BadRecipe")], .t [.p 16, .p 18, .d (.str "BadLadder")], .t [.p 22, .p 24, .d (.str "BadPaper")], .t [.p 28, .p 30, .d (.str "BadPieces")], .t [.p 34, .p 36, .d (.str "BadGlue")], .t [.p 38, .p 40, .d (.str "BadWeb")], .t [.p 44, .p 46, .d (.str "BadText")], .t [.p 48, .p 50, .d (.str "BadDeed")], .t [.p 54, .p 56, .d (.str "BadStages")], .t [.p 60, .p 62, .d (.str "BadMacros")], .t [.p 66, .p 68, .d (.str "BadOrders")]], .xd [("place", .d x)], .xo (cs 14) "no such row" (.p 71), .xd [("place", .d x)], .xo (cs 14) "no such row" (.p 73), .xd [("place", .d x)], .xo (cs 17) "no such task" (.p 75), .xd [("place", .d x)], .xo (cs 17) "no such task" (.p 77), .lst [.t [.p 72, .p 74, .d (.str "BadRow")], .t [.p 76, .p 78, .d (.str "BadTask")]], .lst [.t [.p 1, .p 3, .d (.str "BadPuzzle")], .t [.p 5, .p 7, .d (.str "BadWord")], .t [.p 10, .p 12, .d (.str "BadRecipe")], .t [.p 16, .p 18, .d (.str "BadLadder")], .t [.p 22, .p 24, .d (.str "BadPaper")], .t [.p 28, .p 30, .d (.str "BadPieces")], .t [.p 34, .p 36, .d (.str "BadGlue")], .t [.p 38, .p 40, .d (.str "BadWeb")], .t [.p 44, .p 46, .d (.str "BadText")], .t [.p 48, .p 50, .d (.str "BadDeed")], .t [.p 54, .p 56, .d (.str "BadStages")], .t [.p 60, .p 62, .d (.str "BadMacros")], .t [.p 66, .p 68, .d (.str "BadOrders")], .t [.p 72, .p 74, .d (.str "BadRow")], .t [.p 76, .p 78, .d (.str "BadTask")]], .xd [("place", .d x)], .xo (cs 13) "no such replay" (.p 81), .xd [("place", .d x)], .xo (cs 13) "no such replay" (.p 83), .lst [.t [.p 82, .p 84, .d (.str "BadReplay")]], .lst [.t [.p 1, .p 3, .d (.str "BadPuzzle")], .t [.p 5, .p 7, .d (.str "BadWord")], .t [.p 10, .p 12, .d (.str "BadRecipe")], .t [.p 16, .p 18, .d (.str "BadLadder")], .t [.p 22, .p 24, .d (.str "BadPaper")], .t [.p 28, .p 30, .d (.str "BadPieces")], .t [.p 34, .p 36, .d (.str "BadGlue")], .t [.p 38, .p 40, .d (.str "BadWeb")], .t [.p 44, .p 46, .d (.str "BadText")], .t [.p 48, .p 50, .d (.str "BadDeed")], .t [.p 54, .p 56, .d (.str "BadStages")], .t [.p 60, .p 62, .d (.str "BadMacros")], .t [.p 66, .p 68, .d (.str "BadOrders")], .t [.p 72, .p 74, .d (.str "BadRow")], .t [.p 76, .p 78, .d (.str "BadTask")], .t [.p 82, .p 84, .d (.str "BadReplay")]], .xd [("place", .d x)], .xo (cs 10) "no such prices" (.p 87)]) (ex_mkx w10 (ex_var 0)) rfl rfl) (ea_cons (ex_to (s := .p 90) (M2 := [.xd [("place", .d x)], .xo (cs 11) "no such puzzle" (.p 0), .xd [("place", .d x)], .xo (cs 11) "no such puzzle" (.p 2), .xd [("place", .d x)], .xo (cs 20) "no such word" (.p 4), .xd [("place", .d x)], .xo (cs 20) "no such word" (.p 6), .lst [.t [.p 1, .p 3, .d (.str "BadPuzzle")], .t [.p 5, .p 7, .d (.str "BadWord")]], .xd [("place", .d x)], .xo (cs 12) "no such recipe" (.p 9), .xd [("place", .d x)], .xo (cs 12) "no such recipe" (.p 11), .lst [.t [.p 10, .p 12, .d (.str "BadRecipe")]], .lst [.t [.p 1, .p 3, .d (.str "BadPuzzle")], .t [.p 5, .p 7, .d (.str "BadWord")], .t [.p 10, .p 12, .d (.str "BadRecipe")]], .xd [("place", .d x)], .xo (cs 3) "no such ladder" (.p 15), .xd [("place", .d x)], .xo (cs 3) "no such ladder" (.p 17), .lst [.t [.p 16, .p 18, .d (.str "BadLadder")]], .lst [.t [.p 1, .p 3, .d (.str "BadPuzzle")], .t [.p 5, .p 7, .d (.str "BadWord")], .t [.p 10, .p 12, .d (.str "BadRecipe")], .t [.p 16, .p 18, .d (.str "BadLadder")]], .xd [("place", .d x)], .xo (cs 7) "no such paper" (.p 21), .xd [("place", .d x)], .xo (cs 7) "no such paper" (.p 23), .lst [.t [.p 22, .p 24, .d (.str "BadPaper")]], .lst [.t [.p 1, .p 3, .d (.str "BadPuzzle")], .t [.p 5, .p 7, .d (.str "BadWord")], .t [.p 10, .p 12, .d (.str "BadRecipe")], .t [.p 16, .p 18, .d (.str "BadLadder")], .t [.p 22, .p 24, .d (.str "BadPaper")]], .xd [("place", .d x)], .xo (cs 9) "no such pieces" (.p 27), .xd [("place", .d x)], .xo (cs 9) "no such pieces" (.p 29), .lst [.t [.p 28, .p 30, .d (.str "BadPieces")]], .lst [.t [.p 1, .p 3, .d (.str "BadPuzzle")], .t [.p 5, .p 7, .d (.str "BadWord")], .t [.p 10, .p 12, .d (.str "BadRecipe")], .t [.p 16, .p 18, .d (.str "BadLadder")], .t [.p 22, .p 24, .d (.str "BadPaper")], .t [.p 28, .p 30, .d (.str "BadPieces")]], .xd [("place", .d x)], .xo (cs 2) "no such glue" (.p 33), .xd [("place", .d x)], .xo (cs 2) "no such glue" (.p 35), .xd [("place", .d x)], .xo (cs 19) "no such web" (.p 37), .xd [("place", .d x)], .xo (cs 19) "no such web" (.p 39), .lst [.t [.p 34, .p 36, .d (.str "BadGlue")], .t [.p 38, .p 40, .d (.str "BadWeb")]], .lst [.t [.p 1, .p 3, .d (.str "BadPuzzle")], .t [.p 5, .p 7, .d (.str "BadWord")], .t [.p 10, .p 12, .d (.str "BadRecipe")], .t [.p 16, .p 18, .d (.str "BadLadder")], .t [.p 22, .p 24, .d (.str "BadPaper")], .t [.p 28, .p 30, .d (.str "BadPieces")], .t [.p 34, .p 36, .d (.str "BadGlue")], .t [.p 38, .p 40, .d (.str "BadWeb")]], .xd [("place", .d x)], .xo (cs 18) "no such text" (.p 43), .xd [("place", .d x)], .xo (cs 18) "no such text" (.p 45), .xd [("place", .d x)], .xo (cs 1) "no such deed" (.p 47), .xd [("place", .d x)], .xo (cs 1) "no such deed" (.p 49), .lst [.t [.p 44, .p 46, .d (.str "BadText")], .t [.p 48, .p 50, .d (.str "BadDeed")]], .lst [.t [.p 1, .p 3, .d (.str "BadPuzzle")], .t [.p 5, .p 7, .d (.str "BadWord")], .t [.p 10, .p 12, .d (.str "BadRecipe")], .t [.p 16, .p 18, .d (.str "BadLadder")], .t [.p 22, .p 24, .d (.str "BadPaper")], .t [.p 28, .p 30, .d (.str "BadPieces")], .t [.p 34, .p 36, .d (.str "BadGlue")], .t [.p 38, .p 40, .d (.str "BadWeb")], .t [.p 44, .p 46, .d (.str "BadText")], .t [.p 48, .p 50, .d (.str "BadDeed")]], .xd [("place", .d x)], .xo (cs 15) "no such stages" (.p 53), .xd [("place", .d x)], .xo (cs 15) "no such stages" (.p 55), .lst [.t [.p 54, .p 56, .d (.str "BadStages")]], .lst [.t [.p 1, .p 3, .d (.str "BadPuzzle")], .t [.p 5, .p 7, .d (.str "BadWord")], .t [.p 10, .p 12, .d (.str "BadRecipe")], .t [.p 16, .p 18, .d (.str "BadLadder")], .t [.p 22, .p 24, .d (.str "BadPaper")], .t [.p 28, .p 30, .d (.str "BadPieces")], .t [.p 34, .p 36, .d (.str "BadGlue")], .t [.p 38, .p 40, .d (.str "BadWeb")], .t [.p 44, .p 46, .d (.str "BadText")], .t [.p 48, .p 50, .d (.str "BadDeed")], .t [.p 54, .p 56, .d (.str "BadStages")]], .xd [("place", .d x)], .xo (cs 4) "no such macros" (.p 59), .xd [("place", .d x)], .xo (cs 4) "no such macros" (.p 61), .lst [.t [.p 60, .p 62, .d (.str "BadMacros")]], .lst [.t [.p 1, .p 3, .d (.str "BadPuzzle")], .t [.p 5, .p 7, .d (.str "BadWord")], .t [.p 10, .p 12, .d (.str "BadRecipe")], .t [.p 16, .p 18, .d (.str "BadLadder")], .t [.p 22, .p 24, .d (.str "BadPaper")], .t [.p 28, .p 30, .d (.str "BadPieces")], .t [.p 34, .p 36, .d (.str "BadGlue")], .t [.p 38, .p 40, .d (.str "BadWeb")], .t [.p 44, .p 46, .d (.str "BadText")], .t [.p 48, .p 50, .d (.str "BadDeed")], .t [.p 54, .p 56, .d (.str "BadStages")], .t [.p 60, .p 62, .d (.str "BadMacros")]], .xd [("place", .d x)], .xo (cs 6) "no such orders" (.p 65), .xd [("place", .d x)], .xo (cs 6) "no such orders" (.p 67), .lst [.t [.p 66, .p 68, .d (.str "BadOrders")]], .lst [.t [.p 1, .p 3, .d (.str "BadPuzzle")], .t [.p 5, .p 7, .d (.str "BadWord")], .t [.p 10, .p 12, .d (.str "BadRecipe")], .t [.p 16, .p 18, .d (.str "BadLadder")], .t [.p 22, .p 24, .d (.str "BadPaper")], .t [.p 28, .p 30, .d (.str "BadPieces")], .t [.p 34, .p 36, .d (.str "BadGlue")], .t [.p 38, .p 40, .d (.str "BadWeb")], .t [.p 44, .p 46, .d (.str "BadText")], .t [.p 48, .p 50, .d (.str "BadDeed")], .t [.p 54, .p 56, .d (.str "BadStages")], .t [.p 60, .p 62, .d (.str "BadMacros")], .t [.p 66, .p 68, .d (.str "BadOrders")]], .xd [("place", .d x)], .xo (cs 14) "no such row" (.p 71), .xd [("place", .d x)], .xo (cs 14) "no such row" (.p 73), .xd [("place", .d x)], .xo (cs 17) "no such task" (.p 75), .xd [("place", .d x)], .xo (cs 17) "no such task" (.p 77), .lst [.t [.p 72, .p 74, .d (.str "BadRow")], .t [.p 76, .p 78, .d (.str "BadTask")]], .lst [.t [.p 1, .p 3, .d (.str "BadPuzzle")], .t [.p 5, .p 7, .d (.str "BadWord")], .t [.p 10, .p 12, .d (.str "BadRecipe")], .t [.p 16, .p 18, .d (.str "BadLadder")], .t [.p 22, .p 24, .d (.str "BadPaper")], .t [.p 28, .p 30, .d (.str "BadPieces")], .t [.p 34, .p 36, .d (.str "BadGlue")], .t [.p 38, .p 40, .d (.str "BadWeb")], .t [.p 44, .p 46, .d (.str "BadText")], .t [.p 48, .p 50, .d (.str "BadDeed")], .t [.p 54, .p 56, .d (.str "BadStages")], .t [.p 60, .p 62, .d (.str "BadMacros")], .t [.p 66, .p 68, .d (.str "BadOrders")], .t [.p 72, .p 74, .d (.str "BadRow")], .t [.p 76, .p 78, .d (.str "BadTask")]], .xd [("place", .d x)], .xo (cs 13) "no such replay" (.p 81), .xd [("place", .d x)], .xo (cs 13) "no such replay" (.p 83), .lst [.t [.p 82, .p 84, .d (.str "BadReplay")]], .lst [.t [.p 1, .p 3, .d (.str "BadPuzzle")], .t [.p 5, .p 7, .d (.str "BadWord")], .t [.p 10, .p 12, .d (.str "BadRecipe")], .t [.p 16, .p 18, .d (.str "BadLadder")], .t [.p 22, .p 24, .d (.str "BadPaper")], .t [.p 28, .p 30, .d (.str "BadPieces")], .t [.p 34, .p 36, .d (.str "BadGlue")], .t [.p 38, .p 40, .d (.str "BadWeb")], .t [.p 44, .p 46, .d (.str "BadText")], .t [.p 48, .p 50, .d (.str "BadDeed")], .t [.p 54, .p 56, .d (.str "BadStages")], .t [.p 60, .p 62, .d (.str "BadMacros")], .t [.p 66, .p 68, .d (.str "BadOrders")], .t [.p 72, .p 74, .d (.str "BadRow")], .t [.p 76, .p 78, .d (.str "BadTask")], .t [.p 82, .p 84, .d (.str "BadReplay")]], .xd [("place", .d x)], .xo (cs 10) "no such prices" (.p 87), .xd [("place", .d x)], .xo (cs 10) "no such prices" (.p 89)]) (ex_mkxK w10 (ex_var 0)) rfl rfl) (ea_cons ex_str ea_nil))) (Nat.le_of_ble_eq_true rfl)) rfl rfl) (ea_nil)) (Nat.le_of_ble_eq_true rfl)) rfl rfl) (OS.to (os_cat (xs := [.t [.p 1, .p 3, .d (.str "BadPuzzle")], .t [.p 5, .p 7, .d (.str "BadWord")], .t [.p 10, .p 12, .d (.str "BadRecipe")], .t [.p 16, .p 18, .d (.str "BadLadder")], .t [.p 22, .p 24, .d (.str "BadPaper")], .t [.p 28, .p 30, .d (.str "BadPieces")], .t [.p 34, .p 36, .d (.str "BadGlue")], .t [.p 38, .p 40, .d (.str "BadWeb")], .t [.p 44, .p 46, .d (.str "BadText")], .t [.p 48, .p 50, .d (.str "BadDeed")], .t [.p 54, .p 56, .d (.str "BadStages")], .t [.p 60, .p 62, .d (.str "BadMacros")], .t [.p 66, .p 68, .d (.str "BadOrders")], .t [.p 72, .p 74, .d (.str "BadRow")], .t [.p 76, .p 78, .d (.str "BadTask")], .t [.p 82, .p 84, .d (.str "BadReplay")]]) (ys := [.t [.p 88, .p 90, .d (.str "BadPrices")]]) rfl rfl (Nat.le_of_ble_eq_true rfl)) (r' := .p 92) (M' := [.xd [("place", .d x)], .xo (cs 11) "no such puzzle" (.p 0), .xd [("place", .d x)], .xo (cs 11) "no such puzzle" (.p 2), .xd [("place", .d x)], .xo (cs 20) "no such word" (.p 4), .xd [("place", .d x)], .xo (cs 20) "no such word" (.p 6), .lst [.t [.p 1, .p 3, .d (.str "BadPuzzle")], .t [.p 5, .p 7, .d (.str "BadWord")]], .xd [("place", .d x)], .xo (cs 12) "no such recipe" (.p 9), .xd [("place", .d x)], .xo (cs 12) "no such recipe" (.p 11), .lst [.t [.p 10, .p 12, .d (.str "BadRecipe")]], .lst [.t [.p 1, .p 3, .d (.str "BadPuzzle")], .t [.p 5, .p 7, .d (.str "BadWord")], .t [.p 10, .p 12, .d (.str "BadRecipe")]], .xd [("place", .d x)], .xo (cs 3) "no such ladder" (.p 15), .xd [("place", .d x)], .xo (cs 3) "no such ladder" (.p 17), .lst [.t [.p 16, .p 18, .d (.str "BadLadder")]], .lst [.t [.p 1, .p 3, .d (.str "BadPuzzle")], .t [.p 5, .p 7, .d (.str "BadWord")], .t [.p 10, .p 12, .d (.str "BadRecipe")], .t [.p 16, .p 18, .d (.str "BadLadder")]], .xd [("place", .d x)], .xo (cs 7) "no such paper" (.p 21), .xd [("place", .d x)], .xo (cs 7) "no such paper" (.p 23), .lst [.t [.p 22, .p 24, .d (.str "BadPaper")]], .lst [.t [.p 1, .p 3, .d (.str "BadPuzzle")], .t [.p 5, .p 7, .d (.str "BadWord")], .t [.p 10, .p 12, .d (.str "BadRecipe")], .t [.p 16, .p 18, .d (.str "BadLadder")], .t [.p 22, .p 24, .d (.str "BadPaper")]], .xd [("place", .d x)], .xo (cs 9) "no such pieces" (.p 27), .xd [("place", .d x)], .xo (cs 9) "no such pieces" (.p 29), .lst [.t [.p 28, .p 30, .d (.str "BadPieces")]], .lst [.t [.p 1, .p 3, .d (.str "BadPuzzle")], .t [.p 5, .p 7, .d (.str "BadWord")], .t [.p 10, .p 12, .d (.str "BadRecipe")], .t [.p 16, .p 18, .d (.str "BadLadder")], .t [.p 22, .p 24, .d (.str "BadPaper")], .t [.p 28, .p 30, .d (.str "BadPieces")]], .xd [("place", .d x)], .xo (cs 2) "no such glue" (.p 33), .xd [("place", .d x)], .xo (cs 2) "no such glue" (.p 35), .xd [("place", .d x)], .xo (cs 19) "no such web" (.p 37), .xd [("place", .d x)], .xo (cs 19) "no such web" (.p 39), .lst [.t [.p 34, .p 36, .d (.str "BadGlue")], .t [.p 38, .p 40, .d (.str "BadWeb")]], .lst [.t [.p 1, .p 3, .d (.str "BadPuzzle")], .t [.p 5, .p 7, .d (.str "BadWord")], .t [.p 10, .p 12, .d (.str "BadRecipe")], .t [.p 16, .p 18, .d (.str "BadLadder")], .t [.p 22, .p 24, .d (.str "BadPaper")], .t [.p 28, .p 30, .d (.str "BadPieces")], .t [.p 34, .p 36, .d (.str "BadGlue")], .t [.p 38, .p 40, .d (.str "BadWeb")]], .xd [("place", .d x)], .xo (cs 18) "no such text" (.p 43), .xd [("place", .d x)], .xo (cs 18) "no such text" (.p 45), .xd [("place", .d x)], .xo (cs 1) "no such deed" (.p 47), .xd [("place", .d x)], .xo (cs 1) "no such deed" (.p 49), .lst [.t [.p 44, .p 46, .d (.str "BadText")], .t [.p 48, .p 50, .d (.str "BadDeed")]], .lst [.t [.p 1, .p 3, .d (.str "BadPuzzle")], .t [.p 5, .p 7, .d (.str "BadWord")], .t [.p 10, .p 12, .d (.str "BadRecipe")], .t [.p 16, .p 18, .d (.str "BadLadder")], .t [.p 22, .p 24, .d (.str "BadPaper")], .t [.p 28, .p 30, .d (.str "BadPieces")], .t [.p 34, .p 36, .d (.str "BadGlue")], .t [.p 38, .p 40, .d (.str "BadWeb")], .t [.p 44, .p 46, .d (.str "BadText")], .t [.p 48, .p 50, .d (.str "BadDeed")]], .xd [("place", .d x)], .xo (cs 15) "no such stages" (.p 53), .xd [("place", .d x)], .xo (cs 15) "no such stages" (.p 55), .lst [.t [.p 54, .p 56, .d (.str "BadStages")]], .lst [.t [.p 1, .p 3, .d (.str "BadPuzzle")], .t [.p 5, .p 7, .d (.str "BadWord")], .t [.p 10, .p 12, .d (.str "BadRecipe")], .t [.p 16, .p 18, .d (.str "BadLadder")], .t [.p 22, .p 24, .d (.str "BadPaper")], .t [.p 28, .p 30, .d (.str "BadPieces")], .t [.p 34, .p 36, .d (.str "BadGlue")], .t [.p 38, .p 40, .d (.str "BadWeb")], .t [.p 44, .p 46, .d (.str "BadText")], .t [.p 48, .p 50, .d (.str "BadDeed")], .t [.p 54, .p 56, .d (.str "BadStages")]], .xd [("place", .d x)], .xo (cs 4) "no such macros" (.p 59), .xd [("place", .d x)], .xo (cs 4) "no such macros" (.p 61), .lst [.t [.p 60, .p 62, .d (.str "BadMacros")]], .lst [.t [.p 1, .p 3, .d (.str "BadPuzzle")], .t [.p 5, .p 7, .d (.str "BadWord")], .t [.p 10, .p 12, .d (.str "BadRecipe")], .t [.p 16, .p 18, .d (.str "BadLadder")], .t [.p 22, .p 24, .d (.str "BadPaper")], .t [.p 28, .p 30, .d (.str "BadPieces")], .t [.p 34, .p 36, .d (.str "BadGlue")], .t [.p 38, .p 40, .d (.str "BadWeb")], .t [.p 44, .p 46, .d (.str "BadText")], .t [.p 48, .p 50, .d (.str "BadDeed")], .t [.p 54, .p 56, .d (.str "BadStages")], .t [.p 60, .p 62, .d (.str "BadMacros")]], .xd [("place", .d x)], .xo (cs 6) "no such orders" (.p 65), .xd [("place", .d x)], .xo (cs 6) "no such orders" (.p 67), .lst [.t [.p 66, .p 68, .d (.str "BadOrders")]], .lst [.t [.p 1, .p 3, .d (.str "BadPuzzle")], .t [.p 5, .p 7, .d (.str "BadWord")], .t [.p 10, .p 12, .d (.str "BadRecipe")], .t [.p 16, .p 18, .d (.str "BadLadder")], .t [.p 22, .p 24, .d (.str "BadPaper")], .t [.p 28, .p 30, .d (.str "BadPieces")], .t [.p 34, .p 36, .d (.str "BadGlue")], .t [.p 38, .p 40, .d (.str "BadWeb")], .t [.p 44, .p 46, .d (.str "BadText")], .t [.p 48, .p 50, .d (.str "BadDeed")], .t [.p 54, .p 56, .d (.str "BadStages")], .t [.p 60, .p 62, .d (.str "BadMacros")], .t [.p 66, .p 68, .d (.str "BadOrders")]], .xd [("place", .d x)], .xo (cs 14) "no such row" (.p 71), .xd [("place", .d x)], .xo (cs 14) "no such row" (.p 73), .xd [("place", .d x)], .xo (cs 17) "no such task" (.p 75), .xd [("place", .d x)], .xo (cs 17) "no such task" (.p 77), .lst [.t [.p 72, .p 74, .d (.str "BadRow")], .t [.p 76, .p 78, .d (.str "BadTask")]], .lst [.t [.p 1, .p 3, .d (.str "BadPuzzle")], .t [.p 5, .p 7, .d (.str "BadWord")], .t [.p 10, .p 12, .d (.str "BadRecipe")], .t [.p 16, .p 18, .d (.str "BadLadder")], .t [.p 22, .p 24, .d (.str "BadPaper")], .t [.p 28, .p 30, .d (.str "BadPieces")], .t [.p 34, .p 36, .d (.str "BadGlue")], .t [.p 38, .p 40, .d (.str "BadWeb")], .t [.p 44, .p 46, .d (.str "BadText")], .t [.p 48, .p 50, .d (.str "BadDeed")], .t [.p 54, .p 56, .d (.str "BadStages")], .t [.p 60, .p 62, .d (.str "BadMacros")], .t [.p 66, .p 68, .d (.str "BadOrders")], .t [.p 72, .p 74, .d (.str "BadRow")], .t [.p 76, .p 78, .d (.str "BadTask")]], .xd [("place", .d x)], .xo (cs 13) "no such replay" (.p 81), .xd [("place", .d x)], .xo (cs 13) "no such replay" (.p 83), .lst [.t [.p 82, .p 84, .d (.str "BadReplay")]], .lst [.t [.p 1, .p 3, .d (.str "BadPuzzle")], .t [.p 5, .p 7, .d (.str "BadWord")], .t [.p 10, .p 12, .d (.str "BadRecipe")], .t [.p 16, .p 18, .d (.str "BadLadder")], .t [.p 22, .p 24, .d (.str "BadPaper")], .t [.p 28, .p 30, .d (.str "BadPieces")], .t [.p 34, .p 36, .d (.str "BadGlue")], .t [.p 38, .p 40, .d (.str "BadWeb")], .t [.p 44, .p 46, .d (.str "BadText")], .t [.p 48, .p 50, .d (.str "BadDeed")], .t [.p 54, .p 56, .d (.str "BadStages")], .t [.p 60, .p 62, .d (.str "BadMacros")], .t [.p 66, .p 68, .d (.str "BadOrders")], .t [.p 72, .p 74, .d (.str "BadRow")], .t [.p 76, .p 78, .d (.str "BadTask")], .t [.p 82, .p 84, .d (.str "BadReplay")]], .xd [("place", .d x)], .xo (cs 10) "no such prices" (.p 87), .xd [("place", .d x)], .xo (cs 10) "no such prices" (.p 89), .lst [.t [.p 88, .p 90, .d (.str "BadPrices")]], .lst [.t [.p 1, .p 3, .d (.str "BadPuzzle")], .t [.p 5, .p 7, .d (.str "BadWord")], .t [.p 10, .p 12, .d (.str "BadRecipe")], .t [.p 16, .p 18, .d (.str "BadLadder")], .t [.p 22, .p 24, .d (.str "BadPaper")], .t [.p 28, .p 30, .d (.str "BadPieces")], .t [.p 34, .p 36, .d (.str "BadGlue")], .t [.p 38, .p 40, .d (.str "BadWeb")], .t [.p 44, .p 46, .d (.str "BadText")], .t [.p 48, .p 50, .d (.str "BadDeed")], .t [.p 54, .p 56, .d (.str "BadStages")], .t [.p 60, .p 62, .d (.str "BadMacros")], .t [.p 66, .p 68, .d (.str "BadOrders")], .t [.p 72, .p 74, .d (.str "BadRow")], .t [.p 76, .p 78, .d (.str "BadTask")], .t [.p 82, .p 84, .d (.str "BadReplay")], .t [.p 88, .p 90, .d (.str "BadPrices")]]]) rfl rfl)
                          · refine bx_one ?_
                            apply sx_ret
                            · exact ex_bin (ex_var 1) (ex_to (s := .p 97) (M2 := [.xd [("place", .d x)], .xo (cs 11) "no such puzzle" (.p 0), .xd [("place", .d x)], .xo (cs 11) "no such puzzle" (.p 2), .xd [("place", .d x)], .xo (cs 20) "no such word" (.p 4), .xd [("place", .d x)], .xo (cs 20) "no such word" (.p 6), .lst [.t [.p 1, .p 3, .d (.str "BadPuzzle")], .t [.p 5, .p 7, .d (.str "BadWord")]], .xd [("place", .d x)], .xo (cs 12) "no such recipe" (.p 9), .xd [("place", .d x)], .xo (cs 12) "no such recipe" (.p 11), .lst [.t [.p 10, .p 12, .d (.str "BadRecipe")]], .lst [.t [.p 1, .p 3, .d (.str "BadPuzzle")], .t [.p 5, .p 7, .d (.str "BadWord")], .t [.p 10, .p 12, .d (.str "BadRecipe")]], .xd [("place", .d x)], .xo (cs 3) "no such ladder" (.p 15), .xd [("place", .d x)], .xo (cs 3) "no such ladder" (.p 17), .lst [.t [.p 16, .p 18, .d (.str "BadLadder")]], .lst [.t [.p 1, .p 3, .d (.str "BadPuzzle")], .t [.p 5, .p 7, .d (.str "BadWord")], .t [.p 10, .p 12, .d (.str "BadRecipe")], .t [.p 16, .p 18, .d (.str "BadLadder")]], .xd [("place", .d x)], .xo (cs 7) "no such paper" (.p 21), .xd [("place", .d x)], .xo (cs 7) "no such paper" (.p 23), .lst [.t [.p 22, .p 24, .d (.str "BadPaper")]], .lst [.t [.p 1, .p 3, .d (.str "BadPuzzle")], .t [.p 5, .p 7, .d (.str "BadWord")], .t [.p 10, .p 12, .d (.str "BadRecipe")], .t [.p 16, .p 18, .d (.str "BadLadder")], .t [.p 22, .p 24, .d (.str "BadPaper")]], .xd [("place", .d x)], .xo (cs 9) "no such pieces" (.p 27), .xd [("place", .d x)], .xo (cs 9) "no such pieces" (.p 29), .lst [.t [.p 28, .p 30, .d (.str "BadPieces")]], .lst [.t [.p 1, .p 3, .d (.str "BadPuzzle")], .t [.p 5, .p 7, .d (.str "BadWord")], .t [.p 10, .p 12, .d (.str "BadRecipe")], .t [.p 16, .p 18, .d (.str "BadLadder")], .t [.p 22, .p 24, .d (.str "BadPaper")], .t [.p 28, .p 30, .d (.str "BadPieces")]], .xd [("place", .d x)], .xo (cs 2) "no such glue" (.p 33), .xd [("place", .d x)], .xo (cs 2) "no such glue" (.p 35), .xd [("place", .d x)], .xo (cs 19) "no such web" (.p 37), .xd [("place", .d x)], .xo (cs 19) "no such web" (.p 39), .lst [.t [.p 34, .p 36, .d (.str "BadGlue")], .t [.p 38, .p 40, .d (.str "BadWeb")]], .lst [.t [.p 1, .p 3, .d (.str "BadPuzzle")], .t [.p 5, .p 7, .d (.str "BadWord")], .t [.p 10, .p 12, .d (.str "BadRecipe")], .t [.p 16, .p 18, .d (.str "BadLadder")], .t [.p 22, .p 24, .d (.str "BadPaper")], .t [.p 28, .p 30, .d (.str "BadPieces")], .t [.p 34, .p 36, .d (.str "BadGlue")], .t [.p 38, .p 40, .d (.str "BadWeb")]], .xd [("place", .d x)], .xo (cs 18) "no such text" (.p 43), .xd [("place", .d x)], .xo (cs 18) "no such text" (.p 45), .xd [("place", .d x)], .xo (cs 1) "no such deed" (.p 47), .xd [("place", .d x)], .xo (cs 1) "no such deed" (.p 49), .lst [.t [.p 44, .p 46, .d (.str "BadText")], .t [.p 48, .p 50, .d (.str "BadDeed")]], .lst [.t [.p 1, .p 3, .d (.str "BadPuzzle")], .t [.p 5, .p 7, .d (.str "BadWord")], .t [.p 10, .p 12, .d (.str "BadRecipe")], .t [.p 16, .p 18, .d (.str "BadLadder")], .t [.p 22, .p 24, .d (.str "BadPaper")], .t [.p 28, .p 30, .d (.str "BadPieces")], .t [.p 34, .p 36, .d (.str "BadGlue")], .t [.p 38, .p 40, .d (.str "BadWeb")], .t [.p 44, .p 46, .d (.str "BadText")], .t [.p 48, .p 50, .d (.str "BadDeed")]], .xd [("place", .d x)], .xo (cs 15) "no such stages" (.p 53), .xd [("place", .d x)], .xo (cs 15) "no such stages" (.p 55), .lst [.t [.p 54, .p 56, .d (.str "BadStages")]], .lst [.t [.p 1, .p 3, .d (.str "BadPuzzle")], .t [.p 5, .p 7, .d (.str "BadWord")], .t [.p 10, .p 12, .d (.str "BadRecipe")], .t [.p 16, .p 18, .d (.str "BadLadder")], .t [.p 22, .p 24, .d (.str "BadPaper")], .t [.p 28, .p 30, .d (.str "BadPieces")], .t [.p 34, .p 36, .d (.str "BadGlue")], .t [.p 38, .p 40, .d (.str "BadWeb")], .t [.p 44, .p 46, .d (.str "BadText")], .t [.p 48, .p 50, .d (.str "BadDeed")], .t [.p 54, .p 56, .d (.str "BadStages")]], .xd [("place", .d x)], .xo (cs 4) "no such macros" (.p 59), .xd [("place", .d x)], .xo (cs 4) "no such macros" (.p 61), .lst [.t [.p 60, .p 62, .d (.str "BadMacros")]], .lst [.t [.p 1, .p 3, .d (.str "BadPuzzle")], .t [.p 5, .p 7, .d (.str "BadWord")], .t [.p 10, .p 12, .d (.str "BadRecipe")], .t [.p 16, .p 18, .d (.str "BadLadder")], .t [.p 22, .p 24, .d (.str "BadPaper")], .t [.p 28, .p 30, .d (.str "BadPieces")], .t [.p 34, .p 36, .d (.str "BadGlue")], .t [.p 38, .p 40, .d (.str "BadWeb")], .t [.p 44, .p 46, .d (.str "BadText")], .t [.p 48, .p 50, .d (.str "BadDeed")], .t [.p 54, .p 56, .d (.str "BadStages")], .t [.p 60, .p 62, .d (.str "BadMacros")]], .xd [("place", .d x)], .xo (cs 6) "no such orders" (.p 65), .xd [("place", .d x)], .xo (cs 6) "no such orders" (.p 67), .lst [.t [.p 66, .p 68, .d (.str "BadOrders")]], .lst [.t [.p 1, .p 3, .d (.str "BadPuzzle")], .t [.p 5, .p 7, .d (.str "BadWord")], .t [.p 10, .p 12, .d (.str "BadRecipe")], .t [.p 16, .p 18, .d (.str "BadLadder")], .t [.p 22, .p 24, .d (.str "BadPaper")], .t [.p 28, .p 30, .d (.str "BadPieces")], .t [.p 34, .p 36, .d (.str "BadGlue")], .t [.p 38, .p 40, .d (.str "BadWeb")], .t [.p 44, .p 46, .d (.str "BadText")], .t [.p 48, .p 50, .d (.str "BadDeed")], .t [.p 54, .p 56, .d (.str "BadStages")], .t [.p 60, .p 62, .d (.str "BadMacros")], .t [.p 66, .p 68, .d (.str "BadOrders")]], .xd [("place", .d x)], .xo (cs 14) "no such row" (.p 71), .xd [("place", .d x)], .xo (cs 14) "no such row" (.p 73), .xd [("place", .d x)], .xo (cs 17) "no such task" (.p 75), .xd [("place", .d x)], .xo (cs 17) "no such task" (.p 77), .lst [.t [.p 72, .p 74, .d (.str "BadRow")], .t [.p 76, .p 78, .d (.str "BadTask")]], .lst [.t [.p 1, .p 3, .d (.str "BadPuzzle")], .t [.p 5, .p 7, .d (.str "BadWord")], .t [.p 10, .p 12, .d (.str "BadRecipe")], .t [.p 16, .p 18, .d (.str "BadLadder")], .t [.p 22, .p 24, .d (.str "BadPaper")], .t [.p 28, .p 30, .d (.str "BadPieces")], .t [.p 34, .p 36, .d (.str "BadGlue")], .t [.p 38, .p 40, .d (.str "BadWeb")], .t [.p 44, .p 46, .d (.str "BadText")], .t [.p 48, .p 50, .d (.str "BadDeed")], .t [.p 54, .p 56, .d (.str "BadStages")], .t [.p 60, .p 62, .d (.str "BadMacros")], .t [.p 66, .p 68, .d (.str "BadOrders")], .t [.p 72, .p 74, .d (.str "BadRow")], .t [.p 76, .p 78, .d (.str "BadTask")]], .xd [("place", .d x)], .xo (cs 13) "no such replay" (.p 81), .xd [("place", .d x)], .xo (cs 13) "no such replay" (.p 83), .lst [.t [.p 82, .p 84, .d (.str "BadReplay")]], .lst [.t [.p 1, .p 3, .d (.str "BadPuzzle")], .t [.p 5, .p 7, .d (.str "BadWord")], .t [.p 10, .p 12, .d (.str "BadRecipe")], .t [.p 16, .p 18, .d (.str "BadLadder")], .t [.p 22, .p 24, .d (.str "BadPaper")], .t [.p 28, .p 30, .d (.str "BadPieces")], .t [.p 34, .p 36, .d (.str "BadGlue")], .t [.p 38, .p 40, .d (.str "BadWeb")], .t [.p 44, .p 46, .d (.str "BadText")], .t [.p 48, .p 50, .d (.str "BadDeed")], .t [.p 54, .p 56, .d (.str "BadStages")], .t [.p 60, .p 62, .d (.str "BadMacros")], .t [.p 66, .p 68, .d (.str "BadOrders")], .t [.p 72, .p 74, .d (.str "BadRow")], .t [.p 76, .p 78, .d (.str "BadTask")], .t [.p 82, .p 84, .d (.str "BadReplay")]], .xd [("place", .d x)], .xo (cs 10) "no such prices" (.p 87), .xd [("place", .d x)], .xo (cs 10) "no such prices" (.p 89), .lst [.t [.p 88, .p 90, .d (.str "BadPrices")]], .lst [.t [.p 1, .p 3, .d (.str "BadPuzzle")], .t [.p 5, .p 7, .d (.str "BadWord")], .t [.p 10, .p 12, .d (.str "BadRecipe")], .t [.p 16, .p 18, .d (.str "BadLadder")], .t [.p 22, .p 24, .d (.str "BadPaper")], .t [.p 28, .p 30, .d (.str "BadPieces")], .t [.p 34, .p 36, .d (.str "BadGlue")], .t [.p 38, .p 40, .d (.str "BadWeb")], .t [.p 44, .p 46, .d (.str "BadText")], .t [.p 48, .p 50, .d (.str "BadDeed")], .t [.p 54, .p 56, .d (.str "BadStages")], .t [.p 60, .p 62, .d (.str "BadMacros")], .t [.p 66, .p 68, .d (.str "BadOrders")], .t [.p 72, .p 74, .d (.str "BadRow")], .t [.p 76, .p 78, .d (.str "BadTask")], .t [.p 82, .p 84, .d (.str "BadReplay")], .t [.p 88, .p 90, .d (.str "BadPrices")]], .xd [("place", .d x)], .xo (cs 16) "no such system" (.p 93), .xd [("place", .d x)], .xo (cs 16) "no such system" (.p 95), .lst [.t [.p 94, .p 96, .d (.str "BadSystem")]]]) (ex_list (ea_cons (ex_to (s := .t [.p 94, .p 96, .d (.str "BadSystem")]) (M2 := [.xd [("place", .d x)], .xo (cs 11) "no such puzzle" (.p 0), .xd [("place", .d x)], .xo (cs 11) "no such puzzle" (.p 2), .xd [("place", .d x)], .xo (cs 20) "no such word" (.p 4), .xd [("place", .d x)], .xo (cs 20) "no such word" (.p 6), .lst [.t [.p 1, .p 3, .d (.str "BadPuzzle")], .t [.p 5, .p 7, .d (.str "BadWord")]], .xd [("place", .d x)], .xo (cs 12) "no such recipe" (.p 9), .xd [("place", .d x)], .xo (cs 12) "no such recipe" (.p 11), .lst [.t [.p 10, .p 12, .d (.str "BadRecipe")]], .lst [.t [.p 1, .p 3, .d (.str "BadPuzzle")], .t [.p 5, .p 7, .d (.str "BadWord")], .t [.p 10, .p 12, .d (.str "BadRecipe")]], .xd [("place", .d x)], .xo (cs 3) "no such ladder" (.p 15), .xd [("place", .d x)], .xo (cs 3) "no such ladder" (.p 17), .lst [.t [.p 16, .p 18, .d (.str "BadLadder")]], .lst [.t [.p 1, .p 3, .d (.str "BadPuzzle")], .t [.p 5, .p 7, .d (.str "BadWord")], .t [.p 10, .p 12, .d (.str "BadRecipe")], .t [.p 16, .p 18, .d (.str "BadLadder")]], .xd [("place", .d x)], .xo (cs 7) "no such paper" (.p 21), .xd [("place", .d x)], .xo (cs 7) "no such paper" (.p 23), .lst [.t [.p 22, .p 24, .d (.str "BadPaper")]], .lst [.t [.p 1, .p 3, .d (.str "BadPuzzle")], .t [.p 5, .p 7, .d (.str "BadWord")], .t [.p 10, .p 12, .d (.str "BadRecipe")], .t [.p 16, .p 18, .d (.str "BadLadder")], .t [.p 22, .p 24, .d (.str "BadPaper")]], .xd [("place", .d x)], .xo (cs 9) "no such pieces" (.p 27), .xd [("place", .d x)], .xo (cs 9) "no such pieces" (.p 29), .lst [.t [.p 28, .p 30, .d (.str "BadPieces")]], .lst [.t [.p 1, .p 3, .d (.str "BadPuzzle")], .t [.p 5, .p 7, .d (.str "BadWord")], .t [.p 10, .p 12, .d (.str "BadRecipe")], .t [.p 16, .p 18, .d (.str "BadLadder")], .t [.p 22, .p 24, .d (.str "BadPaper")], .t [.p 28, .p 30, .d (.str "BadPieces")]], .xd [("place", .d x)], .xo (cs 2) "no such glue" (.p 33), .xd [("place", .d x)], .xo (cs 2) "no such glue" (.p 35), .xd [("place", .d x)], .xo (cs 19) "no such web" (.p 37), .xd [("place", .d x)], .xo (cs 19) "no such web" (.p 39), .lst [.t [.p 34, .p 36, .d (.str "BadGlue")], .t [.p 38, .p 40, .d (.str "BadWeb")]], .lst [.t [.p 1, .p 3, .d (.str "BadPuzzle")], .t [.p 5, .p 7, .d (.str "BadWord")], .t [.p 10, .p 12, .d (.str "BadRecipe")], .t [.p 16, .p 18, .d (.str "BadLadder")], .t [.p 22, .p 24, .d (.str "BadPaper")], .t [.p 28, .p 30, .d (.str "BadPieces")], .t [.p 34, .p 36, .d (.str "BadGlue")], .t [.p 38, .p 40, .d (.str "BadWeb")]], .xd [("place", .d x)], .xo (cs 18) "no such text" (.p 43), .xd [("place", .d x)], .xo (cs 18) "no such text" (.p 45), .xd [("place", .d x)], .xo (cs 1) "no such deed" (.p 47), .xd [("place", .d x)], .xo (cs 1) "no such deed" (.p 49), .lst [.t [.p 44, .p 46, .d (.str "BadText")], .t [.p 48, .p 50, .d (.str "BadDeed")]], .lst [.t [.p 1, .p 3, .d (.str "BadPuzzle")], .t [.p 5, .p 7, .d (.str "BadWord")], .t [.p 10, .p 12, .d (.str "BadRecipe")], .t [.p 16, .p 18, .d (.str "BadLadder")], .t [.p 22, .p 24, .d (.str "BadPaper")], .t [.p 28, .p 30, .d (.str "BadPieces")], .t [.p 34, .p 36, .d (.str "BadGlue")], .t [.p 38, .p 40, .d (.str "BadWeb")], .t [.p 44, .p 46, .d (.str "BadText")], .t [.p 48, .p 50, .d (.str "BadDeed")]], .xd [("place", .d x)], .xo (cs 15) "no such stages" (.p 53), .xd [("place", .d x)], .xo (cs 15) "no such stages" (.p 55), .lst [.t [.p 54, .p 56, .d (.str "BadStages")]], .lst [.t [.p 1, .p 3, .d (.str "BadPuzzle")], .t [.p 5, .p 7, .d (.str "BadWord")], .t [.p 10, .p 12, .d (.str "BadRecipe")], .t [.p 16, .p 18, .d (.str "BadLadder")], .t [.p 22, .p 24, .d (.str "BadPaper")], .t [.p 28, .p 30, .d (.str "BadPieces")], .t [.p 34, .p 36, .d (.str "BadGlue")], .t [.p 38, .p 40, .d (.str "BadWeb")], .t [.p 44, .p 46, .d (.str "BadText")], .t [.p 48, .p 50, .d (.str "BadDeed")], .t [.p 54, .p 56, .d (.str "BadStages")]], .xd [("place", .d x)], .xo (cs 4) "no such macros" (.p 59), .xd [("place", .d x)], .xo (cs 4) "no such macros" (.p 61), .lst [.t [.p 60, .p 62, .d (.str "BadMacros")]], .lst [.t [.p 1, .p 3, .d (.str "BadPuzzle")], .t [.p 5, .p 7, .d (.str "BadWord")], .t [.p 10, .p 12, .d (.str "BadRecipe")], .t [.p 16, .p 18, .d (.str "BadLadder")], .t [.p 22, .p 24, .d (.str "BadPaper")], .t [.p 28, .p 30, .d (.str "BadPieces")], .t [.p 34, .p 36, .d (.str "BadGlue")], .t [.p 38, .p 40, .d (.str "BadWeb")], .t [.p 44, .p 46, .d (.str "BadText")], .t [.p 48, .p 50, .d (.str "BadDeed")], .t [.p 54, .p 56, .d (.str "BadStages")], .t [.p 60, .p 62, .d (.str "BadMacros")]], .xd [("place", .d x)], .xo (cs 6) "no such orders" (.p 65), .xd [("place", .d x)], .xo (cs 6) "no such orders" (.p 67), .lst [.t [.p 66, .p 68, .d (.str "BadOrders")]], .lst [.t [.p 1, .p 3, .d (.str "BadPuzzle")], .t [.p 5, .p 7, .d (.str "BadWord")], .t [.p 10, .p 12, .d (.str "BadRecipe")], .t [.p 16, .p 18, .d (.str "BadLadder")], .t [.p 22, .p 24, .d (.str "BadPaper")], .t [.p 28, .p 30, .d (.str "BadPieces")], .t [.p 34, .p 36, .d (.str "BadGlue")], .t [.p 38, .p 40, .d (.str "BadWeb")], .t [.p 44, .p 46, .d (.str "BadText")], .t [.p 48, .p 50, .d (.str "BadDeed")], .t [.p 54, .p 56, .d (.str "BadStages")], .t [.p 60, .p 62, .d (.str "BadMacros")], .t [.p 66, .p 68, .d (.str "BadOrders")]], .xd [("place", .d x)], .xo (cs 14) "no such row" (.p 71), .xd [("place", .d x)], .xo (cs 14) "no such row" (.p 73), .xd [("place", .d x)], .xo (cs 17) "no such task" (.p 75), .xd [("place", .d x)], .xo (cs 17) "no such task" (.p 77), .lst [.t [.p 72, .p 74, .d (.str "BadRow")], .t [.p 76, .p 78, .d (.str "BadTask")]], .lst [.t [.p 1, .p 3, .d (.str "BadPuzzle")], .t [.p 5, .p 7, .d (.str "BadWord")], .t [.p 10, .p 12, .d (.str "BadRecipe")], .t [.p 16, .p 18, .d (.str "BadLadder")], .t [.p 22, .p 24, .d (.str "BadPaper")], .t [.p 28, .p 30, .d (.str "BadPieces")], .t [.p 34, .p 36, .d (.str "BadGlue")], .t [.p 38, .p 40, .d (.str "BadWeb")], .t [.p 44, .p 46, .d (.str "BadText")], .t [.p 48, .p 50, .d (.str "BadDeed")], .t [.p 54, .p 56, .d (.str "BadStages")], .t [.p 60, .p 62, .d (.str "BadMacros")], .t [.p 66, .p 68, .d (.str "BadOrders")], .t [.p 72, .p 74, .d (.str "BadRow")], .t [.p 76, .p 78, .d (.str "BadTask")]], .xd [("place", .d x)], .xo (cs 13) "no such replay" (.p 81), .xd [("place", .d x)], .xo (cs 13) "no such replay" (.p 83), .lst [.t [.p 82, .p 84, .d (.str "BadReplay")]], .lst [.t [.p 1, .p 3, .d (.str "BadPuzzle")], .t [.p 5, .p 7, .d (.str "BadWord")], .t [.p 10, .p 12, .d (.str "BadRecipe")], .t [.p 16, .p 18, .d (.str "BadLadder")], .t [.p 22, .p 24, .d (.str "BadPaper")], .t [.p 28, .p 30, .d (.str "BadPieces")], .t [.p 34, .p 36, .d (.str "BadGlue")], .t [.p 38, .p 40, .d (.str "BadWeb")], .t [.p 44, .p 46, .d (.str "BadText")], .t [.p 48, .p 50, .d (.str "BadDeed")], .t [.p 54, .p 56, .d (.str "BadStages")], .t [.p 60, .p 62, .d (.str "BadMacros")], .t [.p 66, .p 68, .d (.str "BadOrders")], .t [.p 72, .p 74, .d (.str "BadRow")], .t [.p 76, .p 78, .d (.str "BadTask")], .t [.p 82, .p 84, .d (.str "BadReplay")]], .xd [("place", .d x)], .xo (cs 10) "no such prices" (.p 87), .xd [("place", .d x)], .xo (cs 10) "no such prices" (.p 89), .lst [.t [.p 88, .p 90, .d (.str "BadPrices")]], .lst [.t [.p 1, .p 3, .d (.str "BadPuzzle")], .t [.p 5, .p 7, .d (.str "BadWord")], .t [.p 10, .p 12, .d (.str "BadRecipe")], .t [.p 16, .p 18, .d (.str "BadLadder")], .t [.p 22, .p 24, .d (.str "BadPaper")], .t [.p 28, .p 30, .d (.str "BadPieces")], .t [.p 34, .p 36, .d (.str "BadGlue")], .t [.p 38, .p 40, .d (.str "BadWeb")], .t [.p 44, .p 46, .d (.str "BadText")], .t [.p 48, .p 50, .d (.str "BadDeed")], .t [.p 54, .p 56, .d (.str "BadStages")], .t [.p 60, .p 62, .d (.str "BadMacros")], .t [.p 66, .p 68, .d (.str "BadOrders")], .t [.p 72, .p 74, .d (.str "BadRow")], .t [.p 76, .p 78, .d (.str "BadTask")], .t [.p 82, .p 84, .d (.str "BadReplay")], .t [.p 88, .p 90, .d (.str "BadPrices")]], .xd [("place", .d x)], .xo (cs 16) "no such system" (.p 93), .xd [("place", .d x)], .xo (cs 16) "no such system" (.p 95)]) (ex_tup (ea_cons (ex_to (s := .p 94) (M2 := [.xd [("place", .d x)], .xo (cs 11) "no such puzzle" (.p 0), .xd [("place", .d x)], .xo (cs 11) "no such puzzle" (.p 2), .xd [("place", .d x)], .xo (cs 20) "no such word" (.p 4), .xd [("place", .d x)], .xo (cs 20) "no such word" (.p 6), .lst [.t [.p 1, .p 3, .d (.str "BadPuzzle")], .t [.p 5, .p 7, .d (.str "BadWord")]], .xd [("place", .d x)], .xo (cs 12) "no such recipe" (.p 9), .xd [("place", .d x)], .xo (cs 12) "no such recipe" (.p 11), .lst [.t [.p 10, .p 12, .d (.str "BadRecipe")]], .lst [.t [.p 1, .p 3, .d (.str "BadPuzzle")], .t [.p 5, .p 7, .d (.str "BadWord")], .t [.p 10, .p 12, .d (.str "BadRecipe")]], .xd [("place", .d x)], .xo (cs 3) "no such ladder" (.p 15), .xd [("place", .d x)], .xo (cs 3) "no such ladder" (.p 17), .lst [.t [.p 16, .p 18, .d (.str "BadLadder")]], .lst [.t [.p 1, .p 3, .d (.str "BadPuzzle")], .t [.p 5, .p 7, .d (.str "BadWord")], .t [.p 10, .p 12, .d (.str "BadRecipe")], .t [.p 16, .p 18, .d (.str "BadLadder")]], .xd [("place", .d x)], .xo (cs 7) "no such paper" (.p 21), .xd [("place", .d x)], .xo (cs 7) "no such paper" (.p 23), .lst [.t [.p 22, .p 24, .d (.str "BadPaper")]], .lst [.t [.p 1, .p 3, .d (.str "BadPuzzle")], .t [.p 5, .p 7, .d (.str "BadWord")], .t [.p 10, .p 12, .d (.str "BadRecipe")], .t [.p 16, .p 18, .d (.str "BadLadder")], .t [.p 22, .p 24, .d (.str "BadPaper")]], .xd [("place", .d x)], .xo (cs 9) "no such pieces" (.p 27), .xd [("place", .d x)], .xo (cs 9) "no such pieces" (.p 29), .lst [.t [.p 28, .p 30, .d (.str "BadPieces")]], .lst [.t [.p 1, .p 3, .d (.str "BadPuzzle")], .t [.p 5, .p 7, .d (.str "BadWord")], .t [.p 10, .p 12, .d (.str "BadRecipe")], .t [.p 16, .p 18, .d (.str "BadLadder")], .t [.p 22, .p 24, .d (.str "BadPaper")], .t [.p 28, .p 30, .d (.str "BadPieces")]], .xd [("place", .d x)], .xo (cs 2) "no such glue" (.p 33), .xd [("place", .d x)], .xo (cs 2) "no such glue" (.p 35), .xd [("place", .d x)], .xo (cs 19) "no such web" (.p 37), .xd [("place", .d x)], .xo (cs 19) "no such web" (.p 39), .lst [.t [.p 34, .p 36, .d (.str "BadGlue")], .t [.p 38, .p 40, .d (.str "BadWeb")]], .lst [.t [.p 1, .p 3, .d (.str "BadPuzzle")], .t [.p 5, .p 7, .d (.str "BadWord")], .t [.p 10, .p 12, .d (.str "BadRecipe")], .t [.p 16, .p 18, .d (.str "BadLadder")], .t [.p 22, .p 24, .d (.str "BadPaper")], .t [.p 28, .p 30, .d (.str "BadPieces")], .t [.p 34, .p 36, .d (.str "BadGlue")], .t [.p 38, .p 40, .d (.str "BadWeb")]], .xd [("place", .d x)], .xo (cs 18) "no such text" (.p 43), .xd [("place", .d x)], .xo (cs 18) "no such text" (.p 45), .xd [("place", .d x)], .xo (cs 1) "no such deed" (.p 47), .xd [("place", .d x)], .xo (cs 1) "no such deed" (.p 49), .lst [.t [.p 44, .p 46, .d (.str "BadText")], .t [.p 48, .p 50, .d (.str "BadDeed")]], .lst [.t [.p 1, .p 3, .d (.str "BadPuzzle")], .t [.p 5, .p 7, .d (.str "BadWord")], .t [.p 10, .p 12, .d (.str "BadRecipe")], .t [.p 16, .p 18, .d (.str "BadLadder")], .t [.p 22, .p 24, .d (.str "BadPaper")], .t [.p 28, .p 30, .d (.str "BadPieces")], .t [.p 34, .p 36, .d (.str "BadGlue")], .t [.p 38, .p 40, .d (.str "BadWeb")], .t [.p 44, .p 46, .d (.str "BadText")], .t [.p 48, .p 50, .d (.str "BadDeed")]], .xd [("place", .d x)], .xo (cs 15) "no such stages" (.p 53), .xd [("place", .d x)], .xo (cs 15) "no such stages" (.p 55), .lst [.t [.p 54, .p 56, .d (.str "BadStages")]], .lst [.t [.p 1, .p 3, .d (.str "BadPuzzle")], .t [.p 5, .p 7, .d (.str "BadWord")], .t [.p 10, .p 12, .d (.str "BadRecipe")], .t [.p 16, .p 18, .d (.str "BadLadder")], .t [.p 22, .p 24, .d (.str "BadPaper")], .t [.p 28, .p 30, .d (.str "BadPieces")], .t [.p 34, .p 36, .d (.str "BadGlue")], .t [.p 38, .p 40, .d (.str "BadWeb")], .t [.p 44, .p 46, .d (.str "BadText")], .t [.p 48, .p 50, .d (.str "BadDeed")], .t [.p 54, .p 56, .d (.str "BadStages")]], .xd [("place", .d x)], .xo (cs 4) "no such macros" (.p 59), .xd [("place", .d x)], .xo (cs 4) "no such macros" (.p 61), .lst [.t [.p 60, .p 62, .d (.str "BadMacros")]], .lst [.t [.p 1, .p 3, .d (.str "BadPuzzle")], .t [.p 5, .p 7, .d (.str "BadWord")], .t [.p 10, .p 12, .d (.str "BadRecipe")], .t [.p 16, .p 18, .d (.str "BadLadder")], .t [.p 22, .p 24, .d (.str "BadPaper")], .t [.p 28, .p 30, .d (.str "BadPieces")], .t [.p 34, .p 36, .d (.str "BadGlue")], .t [.p 38, .p 40, .d (.str "BadWeb")], .t [.p 44, .p 46, .d (.str "BadText")], .t [.p 48, .p 50, .d (.str "BadDeed")], .t [.p 54, .p 56, .d (.str "BadStages")], .t [.p 60, .p 62, .d (.str "BadMacros")]], .xd [("place", .d x)], .xo (cs 6) "no such orders" (.p 65), .xd [("place", .d x)], .xo (cs 6) "no such orders" (.p 67), .lst [.t [.p 66, .p 68, .d (.str "BadOrders")]], .lst [.t [.p 1, .p 3, .d (.str "BadPuzzle")], .t [.p 5, .p 7, .d (.str "BadWord")], .t [.p 10, .p 12, .d (.str "BadRecipe")], .t [.p 16, .p 18, .d (.str "BadLadder")], .t [.p 22, .p 24, .d (.str "BadPaper")], .t [.p 28, .p 30, .d (.str "BadPieces")], .t [.p 34, .p 36, .d (.str "BadGlue")], .t [.p 38, .p 40, .d (.str "BadWeb")], .t [.p 44, .p 46, .d (.str "BadText")], .t [.p 48, .p 50, .d (.str "BadDeed")], .t [.p 54, .p 56, .d (.str "BadStages")], .t [.p 60, .p 62, .d (.str "BadMacros")], .t [.p 66, .p 68, .d (.str "BadOrders")]], .xd [("place", .d x)], .xo (cs 14) "no such row" (.p 71), .xd [("place", .d x)], .xo (cs 14) "no such row" (.p 73), .xd [("place", .d x)], .xo (cs 17) "no such task" (.p 75), .xd [("place", .d x)], .xo (cs 17) "no such task" (.p 77), .lst [.t [.p 72, .p 74, .d (.str "BadRow")], .t [.p 76, .p 78, .d (.str "BadTask")]], .lst [.t [.p 1, .p 3, .d (.str "BadPuzzle")], .t [.p 5, .p 7, .d (.str "BadWord")], .t [.p 10, .p 12, .d (.str "BadRecipe")], .t [.p 16, .p 18, .d (.str "BadLadder")], .t [.p 22, .p 24, .d (.str "BadPaper")], .t [.p 28, .p 30, .d (.str "BadPieces")], .t [.p 34, .p 36, .d (.str "BadGlue")], .t [.p 38, .p 40, .d (.str "BadWeb")], .t [.p 44, .p 46, .d (.str "BadText")], .t [.p 48, .p 50, .d (.str "BadDeed")], .t [.p 54, .p 56, .d (.str "BadStages")], .t [.p 60, .p 62, .d (.str "BadMacros")], .t [.p 66, .p 68, .d (.str "BadOrders")], .t [.p 72, .p 74, .d (.str "BadRow")], .t [.p 76, .p 78, .d (.str "BadTask")]], .xd [("place", .d x)], .xo (cs 13) "no such replay" (.p 81), .xd [("place", .d x)], .xo (cs 13) "no such replay" (.p 83), .lst [.t [.p 82, .p 84, .d (.str "BadReplay")]], .lst [.t [.p 1, .p 3, .d (.str "BadPuzzle")], .t [.p 5, .p 7, .d (.str "BadWord")], .t [.p 10, .p 12, .d (.str "BadRecipe")], .t [.p 16, .p 18, .d (.str "BadLadder")], .t [.p 22, .p 24, .d (.str "BadPaper")], .t [.p 28, .p 30, .d (.str "BadPieces")], .t [.p 34, .p 36, .d (.str "BadGlue")], .t [.p 38, .p 40, .d (.str "BadWeb")], .t [.p 44, .p 46, .d (.str "BadText")], .t [.p 48, .p 50, .d (.str "BadDeed")], .t [.p 54, .p 56, .d (.str "BadStages")], .t [.p 60, .p 62, .d (.str "BadMacros")], .t [.p 66, .p 68, .d (.str "BadOrders")], .t [.p 72, .p 74, .d (.str "BadRow")], .t [.p 76, .p 78, .d (.str "BadTask")], .t [.p 82, .p 84, .d (.str "BadReplay")]], .xd [("place", .d x)], .xo (cs 10) "no such prices" (.p 87), .xd [("place", .d x)], .xo (cs 10) "no such prices" (.p 89), .lst [.t [.p 88, .p 90, .d (.str "BadPrices")]], .lst [.t [.p 1, .p 3, .d (.str "BadPuzzle")], .t [.p 5, .p 7, .d (.str "BadWord")], .t [.p 10, .p 12, .d (.str "BadRecipe")], .t [.p 16, .p 18, .d (.str "BadLadder")], .t [.p 22, .p 24, .d (.str "BadPaper")], .t [.p 28, .p 30, .d (.str "BadPieces")], .t [.p 34, .p 36, .d (.str "BadGlue")], .t [.p 38, .p 40, .d (.str "BadWeb")], .t [.p 44, .p 46, .d (.str "BadText")], .t [.p 48, .p 50, .d (.str "BadDeed")], .t [.p 54, .p 56, .d (.str "BadStages")], .t [.p 60, .p 62, .d (.str "BadMacros")], .t [.p 66, .p 68, .d (.str "BadOrders")], .t [.p 72, .p 74, .d (.str "BadRow")], .t [.p 76, .p 78, .d (.str "BadTask")], .t [.p 82, .p 84, .d (.str "BadReplay")], .t [.p 88, .p 90, .d (.str "BadPrices")]], .xd [("place", .d x)], .xo (cs 16) "no such system" (.p 93)]) (ex_mkx w16 (ex_var 0)) rfl rfl) (ea_cons (ex_to (s := .p 96) (M2 := [.xd [("place", .d x)], .xo (cs 11) "no such puzzle" (.p 0), .xd [("place", .d x)], .xo (cs 11) "no such puzzle" (.p 2), .xd [("place", .d x)], .xo (cs 20) "no such word" (.p 4), .xd [("place", .d x)], .xo (cs 20) "no such word" (.p 6), .lst [.t [.p 1, .p 3, .d (.str "BadPuzzle")], .t [.p 5, .p 7, .d (.str "BadWord")]], .xd [("place", .d x)], .xo (cs 12) "no such recipe" (.p 9), .xd [("place", .d x)], .xo (cs 12) "no such recipe" (.p 11), .lst [.t [.p 10, .p 12, .d (.str "BadRecipe")]], .lst [.t [.p 1, .p 3, .d (.str "BadPuzzle")], .t [.p 5, .p 7, .d (.str "BadWord")], .t [.p 10, .p 12, .d (.str "BadRecipe")]], .xd [("place", .d x)], .xo (cs 3) "no such ladder" (.p 15), .xd [("place", .d x)], .xo (cs 3) "no such ladder" (.p 17), .lst [.t [.p 16, .p 18, .d (.str "BadLadder")]], .lst [.t [.p 1, .p 3, .d (.str "BadPuzzle")], .t [.p 5, .p 7, .d (.str "BadWord")], .t [.p 10, .p 12, .d (.str "BadRecipe")], .t [.p 16, .p 18, .d (.str "BadLadder")]], .xd [("place", .d x)], .xo (cs 7) "no such paper" (.p 21), .xd [("place", .d x)], .xo (cs 7) "no such paper" (.p 23), .lst [.t [.p 22, .p 24, .d (.str "BadPaper")]], .lst [.t [.p 1, .p 3, .d (.str "BadPuzzle")], .t [.p 5, .p 7, .d (.str "BadWord")], .t [.p 10, .p 12, .d (.str "BadRecipe")], .t [.p 16, .p 18, .d (.str "BadLadder")], .t [.p 22, .p 24, .d (.str "BadPaper")]], .xd [("place", .d x)], .xo (cs 9) "no such pieces" (.p 27), .xd [("place", .d x)], .xo (cs 9) "no such pieces" (.p 29), .lst [.t [.p 28, .p 30, .d (.str "BadPieces")]], .lst [.t [.p 1, .p 3, .d (.str "BadPuzzle")], .t [.p 5, .p 7, .d (.str "BadWord")], .t [.p 10, .p 12, .d (.str "BadRecipe")], .t [.p 16, .p 18, .d (.str "BadLadder")], .t [.p 22, .p 24, .d (.str "BadPaper")], .t [.p 28, .p 30, .d (.str "BadPieces")]], .xd [("place", .d x)], .xo (cs 2) "no such glue" (.p 33), .xd [("place", .d x)], .xo (cs 2) "no such glue" (.p 35), .xd [("place", .d x)], .xo (cs 19) "no such web" (.p 37), .xd [("place", .d x)], .xo (cs 19) "no such web" (.p 39), .lst [.t [.p 34, .p 36, .d (.str "BadGlue")], .t [.p 38, .p 40, .d (.str "BadWeb")]], .lst [.t [.p 1, .p 3, .d (.str "BadPuzzle")], .t [.p 5, .p 7, .d (.str "BadWord")], .t [.p 10, .p 12, .d (.str "BadRecipe")], .t [.p 16, .p 18, .d (.str "BadLadder")], .t [.p 22, .p 24, .d (.str "BadPaper")], .t [.p 28, .p 30, .d (.str "BadPieces")], .t [.p 34, .p 36, .d (.str "BadGlue")], .t [.p 38, .p 40, .d (.str "BadWeb")]], .xd [("place", .d x)], .xo (cs 18) "no such text" (.p 43), .xd [("place", .d x)], .xo (cs 18) "no such text" (.p 45), .xd [("place", .d x)], .xo (cs 1) "no such deed" (.p 47), .xd [("place", .d x)], .xo (cs 1) "no such deed" (.p 49), .lst [.t [.p 44, .p 46, .d (.str "BadText")], .t [.p 48, .p 50, .d (.str "BadDeed")]], .lst [.t [.p 1, .p 3, .d (.str "BadPuzzle")], .t [.p 5, .p 7, .d (.str "BadWord")], .t [.p 10, .p 12, .d (.str "BadRecipe")], .t [.p 16, .p 18, .d (.str "BadLadder")], .t [.p 22, .p 24, .d (.str "BadPaper")], .t [.p 28, .p 30, .d (.str "BadPieces")], .t [.p 34, .p 36, .d (.str "BadGlue")], .t [.p 38, .p 40, .d (.str "BadWeb")], .t [.p 44, .p 46, .d (.str "BadText")], .t [.p 48, .p 50, .d (.str "BadDeed")]], .xd [("place", .d x)], .xo (cs 15) "no such stages" (.p 53), .xd [("place", .d x)], .xo (cs 15) "no such stages" (.p 55), .lst [.t [.p 54, .p 56, .d (.str "BadStages")]], .lst [.t [.p 1, .p 3, .d (.str "BadPuzzle")], .t [.p 5, .p 7, .d (.str "BadWord")], .t [.p 10, .p 12, .d (.str "BadRecipe")], .t [.p 16, .p 18, .d (.str "BadLadder")], .t [.p 22, .p 24, .d (.str "BadPaper")], .t [.p 28, .p 30, .d (.str "BadPieces")], .t [.p 34, .p 36, .d (.str "BadGlue")], .t [.p 38, .p 40, .d (.str "BadWeb")], .t [.p 44, .p 46, .d (.str "BadText")], .t [.p 48, .p 50, .d (.str "BadDeed")], .t [.p 54, .p 56, .d (.str "BadStages")]], .xd [("place", .d x)], .xo (cs 4) "no such macros" (.p 59), .xd [("place", .d x)], .xo (cs 4) "no such macros" (.p 61), .lst [.t [.p 60, .p 62, .d (.str "BadMacros")]], .lst [.t [.p 1, .p 3, .d (.str "BadPuzzle")], .t [.p 5, .p 7, .d (.str "BadWord")], .t [.p 10, .p 12, .d (.str "BadRecipe")], .t [.p 16, .p 18, .d (.str "BadLadder")], .t [.p 22, .p 24, .d (.str "BadPaper")], .t [.p 28, .p 30, .d (.str "BadPieces")], .t [.p 34, .p 36, .d (.str "BadGlue")], .t [.p 38, .p 40, .d (.str "BadWeb")], .t [.p 44, .p 46, .d (.str "BadText")], .t [.p 48, .p 50, .d (.str "BadDeed")], .t [.p 54, .p 56, .d (.str "BadStages")], .t [.p 60, .p 62, .d (.str "BadMacros")]], .xd [("place", .d x)], .xo (cs 6) "no such orders" (.p 65), .xd [("place", .d x)], .xo (cs 6) "no such orders" (.p 67), .lst [.t [.p 66, .p 68, .d (.str "BadOrders")]], .lst [.t [.p 1, .p 3, .d (.str "BadPuzzle")], .t [.p 5, .p 7, .d (.str "BadWord")], .t [.p 10, .p 12, .d (.str "BadRecipe")], .t [.p 16, .p 18, .d (.str "BadLadder")], .t [.p 22, .p 24, .d (.str "BadPaper")], .t [.p 28, .p 30, .d (.str "BadPieces")], .t [.p 34, .p 36, .d (.str "BadGlue")], .t [.p 38, .p 40, .d (.str "BadWeb")], .t [.p 44, .p 46, .d (.str "BadText")], .t [.p 48, .p 50, .d (.str "BadDeed")], .t [.p 54, .p 56, .d (.str "BadStages")], .t [.p 60, .p 62, .d (.str "BadMacros")], .t [.p 66, .p 68, .d (.str "BadOrders")]], .xd [("place", .d x)], .xo (cs 14) "no such row" (.p 71), .xd [("place", .d x)], .xo (cs 14) "no such row" (.p 73), .xd [("place", .d x)], .xo (cs 17) "no such task" (.p 75), .xd [("place", .d x)], .xo (cs 17) "no such task" (.p 77), .lst [.t [.p 72, .p 74, .d (.str "BadRow")], .t [.p 76, .p 78, .d (.str "BadTask")]], .lst [.t [.p 1, .p 3, .d (.str "BadPuzzle")], .t [.p 5, .p 7, .d (.str "BadWord")], .t [.p 10, .p 12, .d (.str "BadRecipe")], .t [.p 16, .p 18, .d (.str "BadLadder")], .t [.p 22, .p 24, .d (.str "BadPaper")], .t [.p 28, .p 30, .d (.str "BadPieces")], .t [.p 34, .p 36, .d (.str "BadGlue")], .t [.p 38, .p 40, .d (.str "BadWeb")], .t [.p 44, .p 46, .d (.str "BadText")], .t [.p 48, .p 50, .d (.str "BadDeed")], .t [.p 54, .p 56, .d (.str "BadStages")], .t [.p 60, .p 62, .d (.str "BadMacros")], .t [.p 66, .p 68, .d (.str "BadOrders")], .t [.p 72, .p 74, .d (.str "BadRow")], .t [.p 76, .p 78, .d (.str "BadTask")]], .xd [("place", .d x)], .xo (cs 13) "no such replay" (.p 81), .xd [("place", .d x)], .xo (cs 13) "no such replay" (.p 83), .lst [.t [.p 82, .p 84, .d (.str "BadReplay")]], .lst [.t [.p 1, .p 3, .d (.str "BadPuzzle")], .t [.p 5, .p 7, .d (.str "BadWord")], .t [.p 10, .p 12, .d (.str "BadRecipe")], .t [.p 16, .p 18, .d (.str "BadLadder")], .t [.p 22, .p 24, .d (.str "BadPaper")], .t [.p 28, .p 30, .d (.str "BadPieces")], .t [.p 34, .p 36, .d (.str "BadGlue")], .t [.p 38, .p 40, .d (.str "BadWeb")], .t [.p 44, .p 46, .d (.str "BadText")], .t [.p 48, .p 50, .d (.str "BadDeed")], .t [.p 54, .p 56, .d (.str "BadStages")], .t [.p 60, .p 62, .d (.str "BadMacros")], .t [.p 66, .p 68, .d (.str "BadOrders")], .t [.p 72, .p 74, .d (.str "BadRow")], .t [.p 76, .p 78, .d (.str "BadTask")], .t [.p 82, .p 84, .d (.str "BadReplay")]], .xd [("place", .d x)], .xo (cs 10) "no such prices" (.p 87), .xd [("place", .d x)], .xo (cs 10) "no such prices" (.p 89), .lst [.t [.p 88, .p 90, .d (.str "BadPrices")]], .lst [.t [.p 1, .p 3, .d (.str "BadPuzzle")], .t [.p 5, .p 7, .d (.str "BadWord")], .t [.p 10, .p 12, .d (.str "BadRecipe")], .t [.p 16, .p 18, .d (.str "BadLadder")], .t [.p 22, .p 24, .d (.str "BadPaper")], .t [.p 28, .p 30, .d (.str "BadPieces")], .t [.p 34, .p 36, .d (.str "BadGlue")], .t [.p 38, .p 40, .d (.str "BadWeb")], .t [.p 44, .p 46, .d (.str "BadText")], .t [.p 48, .p 50, .d (.str "BadDeed")], .t [.p 54, .p 56, .d (.str "BadStages")], .t [.p 60, .p 62, .d (.str "BadMacros")], .t [.p 66, .p 68, .d (.str "BadOrders")], .t [.p 72, .p 74, .d (.str "BadRow")], .t [.p 76, .p 78, .d (.str "BadTask")], .t [.p 82, .p 84, .d (.str "BadReplay")], .t [.p 88, .p 90, .d (.str "BadPrices")]], .xd [("place", .d x)], .xo (cs 16) "no such system" (.p 93), .xd [("place", .d x)], .xo (cs 16) "no such system" (.p 95)]) (ex_mkxK w16 (ex_var 0)) rfl rfl) (ea_cons ex_str ea_nil))) (Nat.le_of_ble_eq_true rfl)) rfl rfl) (ea_nil)) (Nat.le_of_ble_eq_true rfl)) rfl rfl) (OS.to (os_cat (xs := [.t [.p 1, .p 3, .d (.str "BadPuzzle")], .t [.p 5, .p 7, .d (.str "BadWord")], .t [.p 10, .p 12, .d (.str "BadRecipe")], .t [.p 16, .p 18, .d (.str "BadLadder")], .t [.p 22, .p 24, .d (.str "BadPaper")], .t [.p 28, .p 30, .d (.str "BadPieces")], .t [.p 34, .p 36, .d (.str "BadGlue")], .t [.p 38, .p 40, .d (.str "BadWeb")], .t [.p 44, .p 46, .d (.str "BadText")], .t [.p 48, .p 50, .d (.str "BadDeed")], .t [.p 54, .p 56, .d (.str "BadStages")], .t [.p 60, .p 62, .d (.str "BadMacros")], .t [.p 66, .p 68, .d (.str "BadOrders")], .t [.p 72, .p 74, .d (.str "BadRow")], .t [.p 76, .p 78, .d (.str "BadTask")], .t [.p 82, .p 84, .d (.str "BadReplay")], .t [.p 88, .p 90, .d (.str "BadPrices")]]) (ys := [.t [.p 94, .p 96, .d (.str "BadSystem")]]) rfl rfl (Nat.le_of_ble_eq_true rfl)) (r' := .p 98) (M' := [.xd [("place", .d x)], .xo (cs 11) "no such puzzle" (.p 0), .xd [("place", .d x)], .xo (cs 11) "no such puzzle" (.p 2), .xd [("place", .d x)], .xo (cs 20) "no such word" (.p 4), .xd [("place", .d x)], .xo (cs 20) "no such word" (.p 6), .lst [.t [.p 1, .p 3, .d (.str "BadPuzzle")], .t [.p 5, .p 7, .d (.str "BadWord")]], .xd [("place", .d x)], .xo (cs 12) "no such recipe" (.p 9), .xd [("place", .d x)], .xo (cs 12) "no such recipe" (.p 11), .lst [.t [.p 10, .p 12, .d (.str "BadRecipe")]], .lst [.t [.p 1, .p 3, .d (.str "BadPuzzle")], .t [.p 5, .p 7, .d (.str "BadWord")], .t [.p 10, .p 12, .d (.str "BadRecipe")]], .xd [("place", .d x)], .xo (cs 3) "no such ladder" (.p 15), .xd [("place", .d x)], .xo (cs 3) "no such ladder" (.p 17), .lst [.t [.p 16, .p 18, .d (.str "BadLadder")]], .lst [.t [.p 1, .p 3, .d (.str "BadPuzzle")], .t [.p 5, .p 7, .d (.str "BadWord")], .t [.p 10, .p 12, .d (.str "BadRecipe")], .t [.p 16, .p 18, .d (.str "BadLadder")]], .xd [("place", .d x)], .xo (cs 7) "no such paper" (.p 21), .xd [("place", .d x)], .xo (cs 7) "no such paper" (.p 23), .lst [.t [.p 22, .p 24, .d (.str "BadPaper")]], .lst [.t [.p 1, .p 3, .d (.str "BadPuzzle")], .t [.p 5, .p 7, .d (.str "BadWord")], .t [.p 10, .p 12, .d (.str "BadRecipe")], .t [.p 16, .p 18, .d (.str "BadLadder")], .t [.p 22, .p 24, .d (.str "BadPaper")]], .xd [("place", .d x)], .xo (cs 9) "no such pieces" (.p 27), .xd [("place", .d x)], .xo (cs 9) "no such pieces" (.p 29), .lst [.t [.p 28, .p 30, .d (.str "BadPieces")]], .lst [.t [.p 1, .p 3, .d (.str "BadPuzzle")], .t [.p 5, .p 7, .d (.str "BadWord")], .t [.p 10, .p 12, .d (.str "BadRecipe")], .t [.p 16, .p 18, .d (.str "BadLadder")], .t [.p 22, .p 24, .d (.str "BadPaper")], .t [.p 28, .p 30, .d (.str "BadPieces")]], .xd [("place", .d x)], .xo (cs 2) "no such glue" (.p 33), .xd [("place", .d x)], .xo (cs 2) "no such glue" (.p 35), .xd [("place", .d x)], .xo (cs 19) "no such web" (.p 37), .xd [("place", .d x)], .xo (cs 19) "no such web" (.p 39), .lst [.t [.p 34, .p 36, .d (.str "BadGlue")], .t [.p 38, .p 40, .d (.str "BadWeb")]], .lst [.t [.p 1, .p 3, .d (.str "BadPuzzle")], .t [.p 5, .p 7, .d (.str "BadWord")], .t [.p 10, .p 12, .d (.str "BadRecipe")], .t [.p 16, .p 18, .d (.str "BadLadder")], .t [.p 22, .p 24, .d (.str "BadPaper")], .t [.p 28, .p 30, .d (.str "BadPieces")], .t [.p 34, .p 36, .d (.str "BadGlue")], .t [.p 38, .p 40, .d (.str "BadWeb")]], .xd [("place", .d x)], .xo (cs 18) "no such text" (.p 43), .xd [("place", .d x)], .xo (cs 18) "no such text" (.p 45), .xd [("place", .d x)], .xo (cs 1) "no such deed" (.p 47), .xd [("place", .d x)], .xo (cs 1) "no such deed" (.p 49), .lst [.t [.p 44, .p 46, .d (.str "BadText")], .t [.p 48, .p 50, .d (.str "BadDeed")]], .lst [.t [.p 1, .p 3, .d (.str "BadPuzzle")], .t [.p 5, .p 7, .d (.str "BadWord")], .t [.p 10, .p 12, .d (.str "BadRecipe")], .t [.p 16, .p 18, .d (.str "BadLadder")], .t [.p 22, .p 24, .d (.str "BadPaper")], .t [.p 28, .p 30, .d (.str "BadPieces")], .t [.p 34, .p 36, .d (.str "BadGlue")], .t [.p 38, .p 40, .d (.str "BadWeb")], .t [.p 44, .p 46, .d (.str "BadText")], .t [.p 48, .p 50, .d (.str "BadDeed")]], .xd [("place", .d x)], .xo (cs 15) "no such stages" (.p 53), .xd [("place", .d x)], .xo (cs 15) "no such stages" (.p 55), .lst [.t [.p 54, .p 56, .d (.str "BadStages")]], .lst [.t [.p 1, .p 3, .d (.str "BadPuzzle")], .t [.p 5, .p 7, .d (.str "BadWord")], .t [.p 10, .p 12, .d (.str "BadRecipe")], .t [.p 16, .p 18, .d (.str "BadLadder")], .t [.p 22, .p 24, .d (.str "BadPaper")], .t [.p 28, .p 30, .d (.str "BadPieces")], .t [.p 34, .p 36, .d (.str "BadGlue")], .t [.p 38, .p 40, .d (.str "BadWeb")], .t [.p 44, .p 46, .d (.str "BadText")], .t [.p 48, .p 50, .d (.str "BadDeed")], .t [.p 54, .p 56, .d (.str "BadStages")]], .xd [("place", .d x)], .xo (cs 4) "no such macros" (.p 59), .xd [("place", .d x)], .xo (cs 4) "no such macros" (.p 61), .lst [.t [.p 60, .p 62, .d (.str "BadMacros")]], .lst [.t [.p 1, .p 3, .d (.str "BadPuzzle")], .t [.p 5, .p 7, .d (.str "BadWord")], .t [.p 10, .p 12, .d (.str "BadRecipe")], .t [.p 16, .p 18, .d (.str "BadLadder")], .t [.p 22, .p 24, .d (.str "BadPaper")], .t [.p 28, .p 30, .d (.str "BadPieces")], .t [.p 34, .p 36, .d (.str "BadGlue")], .t [.p 38, .p 40, .d (.str "BadWeb")], .t [.p 44, .p 46, .d (.str "BadText")], .t [.p 48, .p 50, .d (.str "BadDeed")], .t [.p 54, .p 56, .d (.str "BadStages")], .t [.p 60, .p 62, .d (.str "BadMacros")]], .xd [("place", .d x)], .xo (cs 6) "no such orders" (.p 65), .xd [("place", .d x)], .xo (cs 6) "no such orders" (.p 67), .lst [.t [.p 66, .p 68, .d (.str "BadOrders")]], .lst [.t [.p 1, .p 3, .d (.str "BadPuzzle")], .t [.p 5, .p 7, .d (.str "BadWord")], .t [.p 10, .p 12, .d (.str "BadRecipe")], .t [.p 16, .p 18, .d (.str "BadLadder")], .t [.p 22, .p 24, .d (.str "BadPaper")], .t [.p 28, .p 30, .d (.str "BadPieces")], .t [.p 34, .p 36, .d (.str "BadGlue")], .t [.p 38, .p 40, .d (.str "BadWeb")], .t [.p 44, .p 46, .d (.str "BadText")], .t [.p 48, .p 50, .d (.str "BadDeed")], .t [.p 54, .p 56, .d (.str "BadStages")], .t [.p 60, .p 62, .d (.str "BadMacros")], .t [.p 66, .p 68, .d (.str "BadOrders")]], .xd [("place", .d x)], .xo (cs 14) "no such row" (.p 71), .xd [("place", .d x)], .xo (cs 14) "no such row" (.p 73), .xd [("place", .d x)], .xo (cs 17) "no such task" (.p 75), .xd [("place", .d x)], .xo (cs 17) "no such task" (.p 77), .lst [.t [.p 72, .p 74, .d (.str "BadRow")], .t [.p 76, .p 78, .d (.str "BadTask")]], .lst [.t [.p 1, .p 3, .d (.str "BadPuzzle")], .t [.p 5, .p 7, .d (.str "BadWord")], .t [.p 10, .p 12, .d (.str "BadRecipe")], .t [.p 16, .p 18, .d (.str "BadLadder")], .t [.p 22, .p 24, .d (.str "BadPaper")], .t [.p 28, .p 30, .d (.str "BadPieces")], .t [.p 34, .p 36, .d (.str "BadGlue")], .t [.p 38, .p 40, .d (.str "BadWeb")], .t [.p 44, .p 46, .d (.str "BadText")], .t [.p 48, .p 50, .d (.str "BadDeed")], .t [.p 54, .p 56, .d (.str "BadStages")], .t [.p 60, .p 62, .d (.str "BadMacros")], .t [.p 66, .p 68, .d (.str "BadOrders")], .t [.p 72, .p 74, .d (.str "BadRow")], .t [.p 76, .p 78, .d (.str "BadTask")]], .xd [("place", .d x)], .xo (cs 13) "no such replay" (.p 81), .xd [("place", .d x)], .xo (cs 13) "no such replay" (.p 83), .lst [.t [.p 82, .p 84, .d (.str "BadReplay")]], .lst [.t [.p 1, .p 3, .d (.str "BadPuzzle")], .t [.p 5, .p 7, .d (.str "BadWord")], .t [.p 10, .p 12, .d (.str "BadRecipe")], .t [.p 16, .p 18, .d (.str "BadLadder")], .t [.p 22, .p 24, .d (.str "BadPaper")], .t [.p 28, .p 30, .d (.str "BadPieces")], .t [.p 34, .p 36, .d (.str "BadGlue")], .t [.p 38, .p 40, .d (.str "BadWeb")], .t [.p 44, .p 46, .d (.str "BadText")], .t [.p 48, .p 50, .d (.str "BadDeed")], .t [.p 54, .p 56, .d (.str "BadStages")], .t [.p 60, .p 62, .d (.str "BadMacros")], .t [.p 66, .p 68, .d (.str "BadOrders")], .t [.p 72, .p 74, .d (.str "BadRow")], .t [.p 76, .p 78, .d (.str "BadTask")], .t [.p 82, .p 84, .d (.str "BadReplay")]], .xd [("place", .d x)], .xo (cs 10) "no such prices" (.p 87), .xd [("place", .d x)], .xo (cs 10) "no such prices" (.p 89), .lst [.t [.p 88, .p 90, .d (.str "BadPrices")]], .lst [.t [.p 1, .p 3, .d (.str "BadPuzzle")], .t [.p 5, .p 7, .d (.str "BadWord")], .t [.p 10, .p 12, .d (.str "BadRecipe")], .t [.p 16, .p 18, .d (.str "BadLadder")], .t [.p 22, .p 24, .d (.str "BadPaper")], .t [.p 28, .p 30, .d (.str "BadPieces")], .t [.p 34, .p 36, .d (.str "BadGlue")], .t [.p 38, .p 40, .d (.str "BadWeb")], .t [.p 44, .p 46, .d (.str "BadText")], .t [.p 48, .p 50, .d (.str "BadDeed")], .t [.p 54, .p 56, .d (.str "BadStages")], .t [.p 60, .p 62, .d (.str "BadMacros")], .t [.p 66, .p 68, .d (.str "BadOrders")], .t [.p 72, .p 74, .d (.str "BadRow")], .t [.p 76, .p 78, .d (.str "BadTask")], .t [.p 82, .p 84, .d (.str "BadReplay")], .t [.p 88, .p 90, .d (.str "BadPrices")]], .xd [("place", .d x)], .xo (cs 16) "no such system" (.p 93), .xd [("place", .d x)], .xo (cs 16) "no such system" (.p 95), .lst [.t [.p 94, .p 96, .d (.str "BadSystem")]], .lst [.t [.p 1, .p 3, .d (.str "BadPuzzle")], .t [.p 5, .p 7, .d (.str "BadWord")], .t [.p 10, .p 12, .d (.str "BadRecipe")], .t [.p 16, .p 18, .d (.str "BadLadder")], .t [.p 22, .p 24, .d (.str "BadPaper")], .t [.p 28, .p 30, .d (.str "BadPieces")], .t [.p 34, .p 36, .d (.str "BadGlue")], .t [.p 38, .p 40, .d (.str "BadWeb")], .t [.p 44, .p 46, .d (.str "BadText")], .t [.p 48, .p 50, .d (.str "BadDeed")], .t [.p 54, .p 56, .d (.str "BadStages")], .t [.p 60, .p 62, .d (.str "BadMacros")], .t [.p 66, .p 68, .d (.str "BadOrders")], .t [.p 72, .p 74, .d (.str "BadRow")], .t [.p 76, .p 78, .d (.str "BadTask")], .t [.p 82, .p 84, .d (.str "BadReplay")], .t [.p 88, .p 90, .d (.str "BadPrices")], .t [.p 94, .p 96, .d (.str "BadSystem")]]]) rfl rfl)
                            · exact fin_all (Nat.zero_le _) (lo_placed cs x) (Nat.lt_of_lt_of_le (Nat.lt_succ_self _) (Nat.le_of_ble_eq_true rfl))
end K

namespace K
open PySem PySem.Spec PyProof.Rows L2 DL DX
theorem proj_k {M : Sto} {o d : Nat} {C : Addr} {msg f : Str} {x : PyData} {ss : List S} (h1 : M[o]? = some (.xo C msg (.p d))) (h2 : M[d]? = some (.xd [(f, .d x)])) (hl : loL 0 ss) :
    Proj [d, o] [.p o] M [.p 1] [.xd [(f, .d x)], .xo C msg (.p 0)] (.p 2) [.xd [(f, .d x)], .xo C msg (.p 0), .lst ss] (.p M.length) (M ++ [.lst ss]) := by
  have nd : d ≠ o := fun z => by
    rw [z, h1] at h2
    cases h2
  have ho := (List.getElem?_eq_some_iff.mp h1).1
  have hd := (List.getElem?_eq_some_iff.mp h2).1
  have id : DL.inR [d, o] d = some 0 := by simp [DL.inR, List.idxOf?_cons]
  have io : DL.inR [d, o] o = some 1 := by simp [DL.inR, List.idxOf?_cons, nd]
  have o0 : outR [d, o] M.length 0 = some d := rfl
  have o1 : outR [d, o] M.length 1 = some o := rfl
  have o2 : outR [d, o] M.length 2 = some M.length := rfl
  exact {
    nd := by simp [nd]
    lt := fun k hk => by
      simp at hk
      rcases hk with rfl | rfl <;> assumption
    args := .cons (.p io) .nil
    mc := rfl
    mi := fun i k m e em => by
      match i with
      | 0 =>
        simp at e
        subst e
        rw [h2] at em
        cases em
        exact ⟨_, rfl, .xd (.cons ⟨rfl, .d x⟩ .nil)⟩
      | 1 =>
        simp at e
        subst e
        rw [h1] at em
        cases em
        exact ⟨_, rfl, .xo (.p id)⟩
      | i + 2 => simp at e
    len := Nat.le_succ _
    len' := by simp
    r := .p o2
    old := fun k h _ => List.getElem?_append_left h
    back := fun i m j e eo => by
      match i with
      | 0 =>
        rw [o0] at eo
        cases eo
        cases e
        exact ⟨_, by rw [List.getElem?_append_left hd, h2], .xd (.cons ⟨rfl, .d x⟩ .nil)⟩
      | 1 =>
        rw [o1] at eo
        cases eo
        cases e
        exact ⟨_, by rw [List.getElem?_append_left ho, h1], .xo (.p o0)⟩
      | 2 =>
        rw [o2] at eo
        cases eo
        cases e
        exact ⟨_, by simp, .lst (loL.ren (fun k h => absurd h (Nat.not_lt_zero _)) hl)⟩
      | i + 3 => simp at e }
theorem ex_notnot {c : Cs} {Γ : Gm} {M M1 : Sto} {e : Expr} (h : EX c Γ M e (.d (.bool (!true))) M1) : EX c Γ M e (.d (.bool false)) M1 := h
section
variable {c : Cs} {Γ : Gm} {M : Sto} {o d i : Nat} {msg f : Str} {x : PyData} {cs : Nat → Addr} {b : Nat → Nat → Bool}
/-- _law_kinds(one) != [.., ..]: not so -/
theorem et_kn {ex ey : Expr} {ss : List S} {ds : List PyData} {p p2 pos : Pos} (F : FnD c.ms 1 "_law_kinds" ["e"] (Rkinds cs b)) (hi : i < 23) (he : EX c Γ M ex (.p o) M) (h1 : M[o]? = some (.xo (cs i) msg (.p d))) (h2 : M[d]? = some (.xd [(f, .d x)]))
    (hk : kAcc (b i) 27 = ds.map S.d) (hy : EX c Γ (M ++ [.lst (kAcc (b i) 27)]) ey (.p (M.length + 1)) (M ++ [.lst (kAcc (b i) 27)] ++ [.lst ss])) (hs : ss = ds.map S.d) (sd : SeqAt.shaped (.list ds) = true) (hj : 1 ≤ c.k) (hg : c.sc.names.lookup ("_law_kinds" : Str) = some gI)
    (hst : ∀ env, starEach [ex] env = (false, eval ex env) :: starEach [] env) (hm : behindInMarks .NotEq ey = false) :
    ET c Γ M (.Compare (.Call (.Name "_law_kinds" p) [ex] [] p2) [.NotEq] [ey] pos) false (M ++ [.lst (kAcc (b i) 27)] ++ [.lst ss]) := by
  have ec := ex_call (pos := p2) (p := p) [d, o] F (ea_cons he ea_nil hst) ⟨i, msg, f, x, hi, rfl, rfl, rfl, rfl⟩ (proj_k h1 h2 (by rw [hk]; exact lo_data _ _)) rfl (hj := hj) (hg := hg) (he := hst)
  have e : PyData.eqv (.list ds) (.list ds) = true := by
    refine SeqAt.eqv_refl _ ?_
    unfold SeqAt.shaped at sd
    exact (Bool.and_eq_true_iff.mp sd).1
  refine et_to (et_cmp ec hy (os_neD (d := .list ds) (e := .list ds) (.l (m := .lst (kAcc (b i) 27)) (ss := kAcc (b i) 27) ?_ rfl hk) (.l (m := .lst ss) (ss := ss) ?_ rfl hs) sd sd) hm) (by rw [e]; rfl) rfl
  · rw [List.append_assoc, List.getElem?_append_right (Nat.le_refl _)]
    simp
  · rw [List.append_assoc, List.getElem?_append_right (Nat.le_succ _)]
    simp
/-- one.f != thing: not so -/
theorem et_fn {ex ey : Expr} {p pos : Pos} (T : XqC c.K (cs i)) (hno : PySem.W.findIn c.K (.ref (cs i)) f = some none) (he : EX c Γ M ex (.p o) M) (h1 : M[o]? = some (.xo (cs i) msg (.p d))) (h2 : M[d]? = some (.xd [(f, .d x)])) (hy : EX c Γ M ey (.d x) M) (sd : SeqAt.shaped x = true)
    (hb : ∀ env, attributeBase ex f env (eval ex env) = eval ex env) (hm : behindInMarks .NotEq ey = false) : ET c Γ M (.Compare (.Attribute ex f p) [.NotEq] [ey] pos) false M := by
  have e : PyData.eqv x x = true := by
    refine SeqAt.eqv_refl _ ?_
    unfold SeqAt.shaped at sd
    exact (Bool.and_eq_true_iff.mp sd).1
  exact et_to (et_cmp (ex_xf T hno he h1 h2 (by simp [List.lookup]) hb) hy (os_neD (.d x) (.d x) sd sd) hm) (by rw [e]; rfl) rfl
end
end K

namespace K
open PySem PySem.Spec PyProof.Rows L2 DL DX
def bT (i j : Nat) : Bool := if j < 23 then i == j else if j < 25 then decide (i < 21) else if j == 25 then i == 21 else i == 22
abbrev s_right : Stmt := top 32
theorem sc_right : FnScope ["thing", "one", "other", "name"] ["thing"] (defScope s_right) := ⟨rfl, rfl, rfl, by decide +kernel, rfl, by decide +kernel, by decide +kernel⟩
def Rright : Rl := fun args M r M' => ∃ x : PyData, SeqAt.shaped x = true ∧ args = [.d x] ∧ M = [] ∧ r = .d (.bool true) ∧ M' = []
theorem kacc_own (i : Nat) (h : i < 21) : kAcc (bT i) 27 = ([.str (cnm.getD i ""), .str "home", .str "value"] : List PyData).map S.d := by
  match i, h with
  | 0, _ => rfl
  | 1, _ => rfl
  | 2, _ => rfl
  | 3, _ => rfl
  | 4, _ => rfl
  | 5, _ => rfl
  | 6, _ => rfl
  | 7, _ => rfl
  | 8, _ => rfl
  | 9, _ => rfl
  | 10, _ => rfl
  | 11, _ => rfl
  | 12, _ => rfl
  | 13, _ => rfl
  | 14, _ => rfl
  | 15, _ => rfl
  | 16, _ => rfl
  | 17, _ => rfl
  | 18, _ => rfl
  | 19, _ => rfl
  | 20, _ => rfl
  | n + 21, h => exact absurd h (Nat.not_lt.mpr (Nat.le_add_left 21 n))
theorem kacc_21 : kAcc (bT 21) 27 = ([.str "NoSuch", .str "lookup"] : List PyData).map S.d := rfl
theorem kacc_22 : kAcc (bT 22) 27 = ([.str "TooMany", .str "overflow"] : List PyData).map S.d := rfl
theorem kacc_lo (b : Nat → Bool) (n : Nat) : loL n (kAcc b 27) := lo_map n _ _
def Mboth (cs : Nat → Addr) (x : PyData) : Sto := [.xd [("value", .d x)], .xo (cs 8) "no such permutation" (.p 0), .xd [("value", .d x)], .xo (cs 8) "no such permutation" (.p 2), .xd [("value", .d x)], .xo (cs 5) "no such number" (.p 4), .xd [("value", .d x)], .xo (cs 5) "no such number" (.p 6), .lst [.t [.p 1, .p 3, .d (.str "BadPerm")], .t [.p 5, .p 7, .d (.str "BadNumber")]], .xd [("value", .d x)], .xo (cs 0) "no such colours" (.p 9), .xd [("value", .d x)], .xo (cs 0) "no such colours" (.p 11), .lst [.t [.p 10, .p 12, .d (.str "BadColours")]], .lst [.t [.p 1, .p 3, .d (.str "BadPerm")], .t [.p 5, .p 7, .d (.str "BadNumber")], .t [.p 10, .p 12, .d (.str "BadColours")]], .xd [("place", .d x)], .xo (cs 11) "no such puzzle" (.p 15), .xd [("place", .d x)], .xo (cs 11) "no such puzzle" (.p 17), .xd [("place", .d x)], .xo (cs 20) "no such word" (.p 19), .xd [("place", .d x)], .xo (cs 20) "no such word" (.p 21), .lst [.t [.p 16, .p 18, .d (.str "BadPuzzle")], .t [.p 20, .p 22, .d (.str "BadWord")]], .xd [("place", .d x)], .xo (cs 12) "no such recipe" (.p 24), .xd [("place", .d x)], .xo (cs 12) "no such recipe" (.p 26), .lst [.t [.p 25, .p 27, .d (.str "BadRecipe")]], .lst [.t [.p 16, .p 18, .d (.str "BadPuzzle")], .t [.p 20, .p 22, .d (.str "BadWord")], .t [.p 25, .p 27, .d (.str "BadRecipe")]], .xd [("place", .d x)], .xo (cs 3) "no such ladder" (.p 30), .xd [("place", .d x)], .xo (cs 3) "no such ladder" (.p 32), .lst [.t [.p 31, .p 33, .d (.str "BadLadder")]], .lst [.t [.p 16, .p 18, .d (.str "BadPuzzle")], .t [.p 20, .p 22, .d (.str "BadWord")], .t [.p 25, .p 27, .d (.str "BadRecipe")], .t [.p 31, .p 33, .d (.str "BadLadder")]], .xd [("place", .d x)], .xo (cs 7) "no such paper" (.p 36), .xd [("place", .d x)], .xo (cs 7) "no such paper" (.p 38), .lst [.t [.p 37, .p 39, .d (.str "BadPaper")]], .lst [.t [.p 16, .p 18, .d (.str "BadPuzzle")], .t [.p 20, .p 22, .d (.str "BadWord")], .t [.p 25, .p 27, .d (.str "BadRecipe")], .t [.p 31, .p 33, .d (.str "BadLadder")], .t [.p 37, .p 39, .d (.str "BadPaper")]], .xd [("place", .d x)], .xo (cs 9) "no such pieces" (.p 42), .xd [("place", .d x)], .xo (cs 9) "no such pieces" (.p 44), .lst [.t [.p 43, .p 45, .d (.str "BadPieces")]], .lst [.t [.p 16, .p 18, .d (.str "BadPuzzle")], .t [.p 20, .p 22, .d (.str "BadWord")], .t [.p 25, .p 27, .d (.str "BadRecipe")], .t [.p 31, .p 33, .d (.str "BadLadder")], .t [.p 37, .p 39, .d (.str "BadPaper")], .t [.p 43, .p 45, .d (.str "BadPieces")]], .xd [("place", .d x)], .xo (cs 2) "no such glue" (.p 48), .xd [("place", .d x)], .xo (cs 2) "no such glue" (.p 50), .xd [("place", .d x)], .xo (cs 19) "no such web" (.p 52), .xd [("place", .d x)], .xo (cs 19) "no such web" (.p 54), .lst [.t [.p 49, .p 51, .d (.str "BadGlue")], .t [.p 53, .p 55, .d (.str "BadWeb")]], .lst [.t [.p 16, .p 18, .d (.str "BadPuzzle")], .t [.p 20, .p 22, .d (.str "BadWord")], .t [.p 25, .p 27, .d (.str "BadRecipe")], .t [.p 31, .p 33, .d (.str "BadLadder")], .t [.p 37, .p 39, .d (.str "BadPaper")], .t [.p 43, .p 45, .d (.str "BadPieces")], .t [.p 49, .p 51, .d (.str "BadGlue")], .t [.p 53, .p 55, .d (.str "BadWeb")]], .xd [("place", .d x)], .xo (cs 18) "no such text" (.p 58), .xd [("place", .d x)], .xo (cs 18) "no such text" (.p 60), .xd [("place", .d x)], .xo (cs 1) "no such deed" (.p 62), .xd [("place", .d x)], .xo (cs 1) "no such deed" (.p 64), .lst [.t [.p 59, .p 61, .d (.str "BadText")], .t [.p 63, .p 65, .d (.str "BadDeed")]], .lst [.t [.p 16, .p 18, .d (.str "BadPuzzle")], .t [.p 20, .p 22, .d (.str "BadWord")], .t [.p 25, .p 27, .d (.str "BadRecipe")], .t [.p 31, .p 33, .d (.str "BadLadder")], .t [.p 37, .p 39, .d (.str "BadPaper")], .t [.p 43, .p 45, .d (.str "BadPieces")], .t [.p 49, .p 51, .d (.str "BadGlue")], .t [.p 53, .p 55, .d (.str "BadWeb")], .t [.p 59, .p 61, .d (.str "BadText")], .t [.p 63, .p 65, .d (.str "BadDeed")]], .xd [("place", .d x)], .xo (cs 15) "no such stages" (.p 68), .xd [("place", .d x)], .xo (cs 15) "no such stages" (.p 70), .lst [.t [.p 69, .p 71, .d (.str "BadStages")]], .lst [.t [.p 16, .p 18, .d (.str "BadPuzzle")], .t [.p 20, .p 22, .d (.str "BadWord")], .t [.p 25, .p 27, .d (.str "BadRecipe")], .t [.p 31, .p 33, .d (.str "BadLadder")], .t [.p 37, .p 39, .d (.str "BadPaper")], .t [.p 43, .p 45, .d (.str "BadPieces")], .t [.p 49, .p 51, .d (.str "BadGlue")], .t [.p 53, .p 55, .d (.str "BadWeb")], .t [.p 59, .p 61, .d (.str "BadText")], .t [.p 63, .p 65, .d (.str "BadDeed")], .t [.p 69, .p 71, .d (.str "BadStages")]], .xd [("place", .d x)], .xo (cs 4) "no such macros" (.p 74), .xd [("place", .d x)], .xo (cs 4) "no such macros" (.p 76), .lst [.t [.p 75, .p 77, .d (.str "BadMacros")]], .lst [.t [.p 16, .p 18, .d (.str "BadPuzzle")], .t [.p 20, .p 22, .d (.str "BadWord")], .t [.p 25, .p 27, .d (.str "BadRecipe")], .t [.p 31, .p 33, .d (.str "BadLadder")], .t [.p 37, .p 39, .d (.str "BadPaper")], .t [.p 43, .p 45, .d (.str "BadPieces")], .t [.p 49, .p 51, .d (.str "BadGlue")], .t [.p 53, .p 55, .d (.str "BadWeb")], .t [.p 59, .p 61, .d (.str "BadText")], .t [.p 63, .p 65, .d (.str "BadDeed")], .t [.p 69, .p 71, .d (.str "BadStages")], .t [.p 75, .p 77, .d (.str "BadMacros")]], .xd [("place", .d x)], .xo (cs 6) "no such orders" (.p 80), .xd [("place", .d x)], .xo (cs 6) "no such orders" (.p 82), .lst [.t [.p 81, .p 83, .d (.str "BadOrders")]], .lst [.t [.p 16, .p 18, .d (.str "BadPuzzle")], .t [.p 20, .p 22, .d (.str "BadWord")], .t [.p 25, .p 27, .d (.str "BadRecipe")], .t [.p 31, .p 33, .d (.str "BadLadder")], .t [.p 37, .p 39, .d (.str "BadPaper")], .t [.p 43, .p 45, .d (.str "BadPieces")], .t [.p 49, .p 51, .d (.str "BadGlue")], .t [.p 53, .p 55, .d (.str "BadWeb")], .t [.p 59, .p 61, .d (.str "BadText")], .t [.p 63, .p 65, .d (.str "BadDeed")], .t [.p 69, .p 71, .d (.str "BadStages")], .t [.p 75, .p 77, .d (.str "BadMacros")], .t [.p 81, .p 83, .d (.str "BadOrders")]], .xd [("place", .d x)], .xo (cs 14) "no such row" (.p 86), .xd [("place", .d x)], .xo (cs 14) "no such row" (.p 88), .xd [("place", .d x)], .xo (cs 17) "no such task" (.p 90), .xd [("place", .d x)], .xo (cs 17) "no such task" (.p 92), .lst [.t [.p 87, .p 89, .d (.str "BadRow")], .t [.p 91, .p 93, .d (.str "BadTask")]], .lst [.t [.p 16, .p 18, .d (.str "BadPuzzle")], .t [.p 20, .p 22, .d (.str "BadWord")], .t [.p 25, .p 27, .d (.str "BadRecipe")], .t [.p 31, .p 33, .d (.str "BadLadder")], .t [.p 37, .p 39, .d (.str "BadPaper")], .t [.p 43, .p 45, .d (.str "BadPieces")], .t [.p 49, .p 51, .d (.str "BadGlue")], .t [.p 53, .p 55, .d (.str "BadWeb")], .t [.p 59, .p 61, .d (.str "BadText")], .t [.p 63, .p 65, .d (.str "BadDeed")], .t [.p 69, .p 71, .d (.str "BadStages")], .t [.p 75, .p 77, .d (.str "BadMacros")], .t [.p 81, .p 83, .d (.str "BadOrders")], .t [.p 87, .p 89, .d (.str "BadRow")], .t [.p 91, .p 93, .d (.str "BadTask")]], .xd [("place", .d x)], .xo (cs 13) "no such replay" (.p 96), .xd [("place", .d x)], .xo (cs 13) "no such replay" (.p 98), .lst [.t [.p 97, .p 99, .d (.str "BadReplay")]], .lst [.t [.p 16, .p 18, .d (.str "BadPuzzle")], .t [.p 20, .p 22, .d (.str "BadWord")], .t [.p 25, .p 27, .d (.str "BadRecipe")], .t [.p 31, .p 33, .d (.str "BadLadder")], .t [.p 37, .p 39, .d (.str "BadPaper")], .t [.p 43, .p 45, .d (.str "BadPieces")], .t [.p 49, .p 51, .d (.str "BadGlue")], .t [.p 53, .p 55, .d (.str "BadWeb")], .t [.p 59, .p 61, .d (.str "BadText")], .t [.p 63, .p 65, .d (.str "BadDeed")], .t [.p 69, .p 71, .d (.str "BadStages")], .t [.p 75, .p 77, .d (.str "BadMacros")], .t [.p 81, .p 83, .d (.str "BadOrders")], .t [.p 87, .p 89, .d (.str "BadRow")], .t [.p 91, .p 93, .d (.str "BadTask")], .t [.p 97, .p 99, .d (.str "BadReplay")]], .xd [("place", .d x)], .xo (cs 10) "no such prices" (.p 102), .xd [("place", .d x)], .xo (cs 10) "no such prices" (.p 104), .lst [.t [.p 103, .p 105, .d (.str "BadPrices")]], .lst [.t [.p 16, .p 18, .d (.str "BadPuzzle")], .t [.p 20, .p 22, .d (.str "BadWord")], .t [.p 25, .p 27, .d (.str "BadRecipe")], .t [.p 31, .p 33, .d (.str "BadLadder")], .t [.p 37, .p 39, .d (.str "BadPaper")], .t [.p 43, .p 45, .d (.str "BadPieces")], .t [.p 49, .p 51, .d (.str "BadGlue")], .t [.p 53, .p 55, .d (.str "BadWeb")], .t [.p 59, .p 61, .d (.str "BadText")], .t [.p 63, .p 65, .d (.str "BadDeed")], .t [.p 69, .p 71, .d (.str "BadStages")], .t [.p 75, .p 77, .d (.str "BadMacros")], .t [.p 81, .p 83, .d (.str "BadOrders")], .t [.p 87, .p 89, .d (.str "BadRow")], .t [.p 91, .p 93, .d (.str "BadTask")], .t [.p 97, .p 99, .d (.str "BadReplay")], .t [.p 103, .p 105, .d (.str "BadPrices")]], .xd [("place", .d x)], .xo (cs 16) "no such system" (.p 108), .xd [("place", .d x)], .xo (cs 16) "no such system" (.p 110), .lst [.t [.p 109, .p 111, .d (.str "BadSystem")]], .lst [.t [.p 16, .p 18, .d (.str "BadPuzzle")], .t [.p 20, .p 22, .d (.str "BadWord")], .t [.p 25, .p 27, .d (.str "BadRecipe")], .t [.p 31, .p 33, .d (.str "BadLadder")], .t [.p 37, .p 39, .d (.str "BadPaper")], .t [.p 43, .p 45, .d (.str "BadPieces")], .t [.p 49, .p 51, .d (.str "BadGlue")], .t [.p 53, .p 55, .d (.str "BadWeb")], .t [.p 59, .p 61, .d (.str "BadText")], .t [.p 63, .p 65, .d (.str "BadDeed")], .t [.p 69, .p 71, .d (.str "BadStages")], .t [.p 75, .p 77, .d (.str "BadMacros")], .t [.p 81, .p 83, .d (.str "BadOrders")], .t [.p 87, .p 89, .d (.str "BadRow")], .t [.p 91, .p 93, .d (.str "BadTask")], .t [.p 97, .p 99, .d (.str "BadReplay")], .t [.p 103, .p 105, .d (.str "BadPrices")], .t [.p 109, .p 111, .d (.str "BadSystem")]]]
theorem both_eq (cs : Nat → Addr) (x : PyData) : Mvalued cs x ++ shMs 15 (Mplaced cs x) = Mboth cs x := rfl
theorem lo_both (cs : Nat → Addr) (x : PyData) : loMs 114 (Mboth cs x) := by
  unfold Mboth
  repeat' (first | exact trivial | exact Nat.le_of_ble_eq_true rfl | (refine ⟨?_, ?_⟩))
def M3 (cs : Nat → Addr) (x : PyData) : Sto := Mboth cs x ++ [.xd [("value", .d x)], .xo (cs 21) "nothing so called" (.p 114), .xd [("value", .d x)], .xo (cs 21) "nothing so called" (.p 116)]
def M4 (cs : Nat → Addr) (x : PyData) : Sto := M3 cs x ++ [.xd [("most", .d x)], .xo (cs 22) "too many" (.p 118), .xd [("most", .d x)], .xo (cs 22) "too many" (.p 120)]
theorem loMs_app {n : Nat} : ∀ {A B : Sto}, loMs n A → loMs n B → loMs n (A ++ B)
  | [], _, _, h => h
  | a :: A, _, h, g => ⟨h.1, loMs_app h.2 g⟩
mutual
theorem loS_mono {n k : Nat} (h : n ≤ k) : ∀ {x : S}, loS n x → loS k x
  | .d _, _ => trivial
  | .v _, _ => trivial
  | .p j, q => Nat.lt_of_lt_of_le (show j < n from q) h
  | .t xs, q => loL_mono h (xs := xs) q
theorem loL_mono {n k : Nat} (h : n ≤ k) : ∀ {xs : List S}, loL n xs → loL k xs
  | [], _ => trivial
  | x :: xs, q => ⟨loS_mono h q.1, loL_mono h q.2⟩
end
theorem loM_mono {n k : Nat} (h : n ≤ k) : ∀ {m : MO}, loM n m → loM k m
  | .lst _, q => loL_mono h q
  | .rl _, q => loL_mono h q
  | .dk _, q => loL_mono h q
  | .dt _, q => loL_mono h q
  | .ins _ _, q => loL_mono h q
  | .xo _ _ _, q => loS_mono h q
  | .xd _, q => loL_mono h q
  | .oth _, _ => trivial
theorem loMs_mono {n k : Nat} (h : n ≤ k) : ∀ {M : Sto}, loMs n M → loMs k M
  | [], _ => trivial
  | m :: M, q => ⟨loM_mono h q.1, loMs_mono h q.2⟩
theorem lo_3 (cs : Nat → Addr) (x : PyData) : loMs 118 (M3 cs x) := loMs_app (loMs_mono (Nat.le_of_ble_eq_true rfl) (lo_both cs x)) (by repeat' (first | exact trivial | exact Nat.le_of_ble_eq_true rfl | (refine ⟨?_, ?_⟩)))
theorem lo_4 (cs : Nat → Addr) (x : PyData) : loMs 122 (M4 cs x) := loMs_app (loMs_mono (Nat.le_of_ble_eq_true rfl) (lo_3 cs x)) (by repeat' (first | exact trivial | exact Nat.le_of_ble_eq_true rfl | (refine ⟨?_, ?_⟩)))
def forBody : Stmt → List Stmt
  | .For _ _ b _ _ => b
  | _ => []
theorem turn_value {m : Ms} {cs : Nat → Addr} {M : Sto} {N : Nd} {x : PyData} {i o1 o2 d1 d2 : Nat} {msg nm : Str} (F : KF m cs bT) (Fk : FnD m 1 "_law_kinds" ["e"] (Rkinds cs bT)) (hi : i < 23) (hk : kAcc (bT i) 27 = ([.str nm, .str "home", .str "value"] : List PyData).map S.d) (hno : PySem.W.findIn m.K (.ref (cs i)) "value" = some none) (sx : SeqAt.shaped x = true)
    (h1 : M[o1]? = some (.xo (cs i) msg (.p d1))) (h2 : M[d1]? = some (.xd [("value", .d x)])) (h3 : M[o2]? = some (.xo (cs i) msg (.p d2))) (h4 : M[d2]? = some (.xd [("value", .d x)])) (sn : SeqAt.shaped (.list [.str nm, .str "home", .str "value"]) = true)
    (hN : ∀ M', M.length ≤ M'.length → M'.take M.length = M → N.nx [some (.d x), some (.p o1), some (.p o2), some (.d (.str nm))] M') : BX (m.cs ["thing", "one", "other", "name"] (defScope s_right) 3) [some (.d x), some (.p o1), some (.p o2), some (.d (.str nm))] M (forBody ((defBody s_right).getD 0 (.Pass ⟨0, 0, 0, 0⟩))) N := by
  have T := F.q i hi
  have up : ∀ {k : Nat} {e : MO} {A : Sto}, M[k]? = some e → (M ++ A)[k]? = some e := fun {k e A} q => by
    rw [List.getElem?_append_left (List.getElem?_eq_some_iff.mp q).1, q]
  refine bx_cons ?_
  apply sx_if (q := false) (M1 := M ++ [.lst (kAcc (bT i) 27)] ++ [.lst [.d (.str nm), .d (.str "home"), .d (.str "value")]] ++ [.lst (kAcc (bT i) 27)] ++ [.lst [.d (.str nm), .d (.str "home"), .d (.str "value")]])
  · refine et_w (ew_orF (M1 := M ++ [.lst (kAcc (bT i) 27)] ++ [.lst [.d (.str nm), .d (.str "home"), .d (.str "value")]]) ?_ (ew_or1 ?_))
    · exact et_kn Fk hi (ex_var 1) h1 h2 hk (ex_to (ex_list (ea_cons (ex_var 3) (ea_cons ex_str (ea_cons ex_str ea_nil))) (Nat.le_of_ble_eq_true rfl)) (by simp) rfl) rfl sn (Nat.le_of_ble_eq_true rfl) rfl (fun _ => rfl) (by with_unfolding_all rfl)
    · exact et_kn Fk hi (ex_var 2) (by rw [List.append_assoc]; exact up h3) (by rw [List.append_assoc]; exact up h4) hk (ex_to (ex_list (ea_cons (ex_var 3) (ea_cons ex_str (ea_cons ex_str ea_nil))) (Nat.le_of_ble_eq_true rfl)) (by simp) rfl) rfl sn (Nat.le_of_ble_eq_true rfl) rfl (fun _ => rfl) (by with_unfolding_all rfl)
  · intro q
    cases q
  · intro _
    refine bx_nil (bx_one ?_)
    generalize hA : [MO.lst (kAcc (bT i) 27)] ++ [.lst [S.d (.str nm), .d (.str "home"), .d (.str "value")]] ++ [.lst (kAcc (bT i) 27)] ++ [.lst [.d (.str nm), .d (.str "home"), .d (.str "value")]] = A
    have eA : M ++ [MO.lst (kAcc (bT i) 27)] ++ [.lst [S.d (.str nm), .d (.str "home"), .d (.str "value")]] ++ [.lst (kAcc (bT i) 27)] ++ [.lst [.d (.str nm), .d (.str "home"), .d (.str "value")]] = M ++ A := by
      rw [← hA]
      simp
    rw [eA]
    apply sx_if (q := false) (M1 := M ++ A)
    · refine et_w (ew_orF (M1 := M ++ A) ?_ (ew_or1 ?_))
      · exact et_fn T hno (ex_var 1) (up h1) (up h2) (ex_var 0) sx (fun _ => rfl) (by with_unfolding_all rfl)
      · exact et_fn T hno (ex_var 2) (up h3) (up h4) (ex_var 0) sx (fun _ => rfl) (by with_unfolding_all rfl)
    · intro q
      cases q
    · intro _
      exact bx_nil (hN _ (by simp) (by simp))
theorem turn_place {m : Ms} {cs : Nat → Addr} {M : Sto} {N : Nd} {x : PyData} {i o1 o2 d1 d2 : Nat} {msg nm : Str} (F : KF m cs bT) (Fk : FnD m 1 "_law_kinds" ["e"] (Rkinds cs bT)) (hi : i < 23) (hk : kAcc (bT i) 27 = ([.str nm, .str "home", .str "value"] : List PyData).map S.d) (hno : PySem.W.findIn m.K (.ref (cs i)) "place" = some none) (sx : SeqAt.shaped x = true)
    (h1 : M[o1]? = some (.xo (cs i) msg (.p d1))) (h2 : M[d1]? = some (.xd [("place", .d x)])) (h3 : M[o2]? = some (.xo (cs i) msg (.p d2))) (h4 : M[d2]? = some (.xd [("place", .d x)])) (sn : SeqAt.shaped (.list [.str nm, .str "home", .str "value"]) = true)
    (hN : ∀ M', M.length ≤ M'.length → M'.take M.length = M → N.nx [some (.d x), some (.p o1), some (.p o2), some (.d (.str nm))] M') : BX (m.cs ["thing", "one", "other", "name"] (defScope s_right) 3) [some (.d x), some (.p o1), some (.p o2), some (.d (.str nm))] M (forBody ((defBody s_right).getD 1 (.Pass ⟨0, 0, 0, 0⟩))) N := by
  have T := F.q i hi
  have up : ∀ {k : Nat} {e : MO} {A : Sto}, M[k]? = some e → (M ++ A)[k]? = some e := fun {k e A} q => by
    rw [List.getElem?_append_left (List.getElem?_eq_some_iff.mp q).1, q]
  refine bx_cons ?_
  apply sx_if (q := false) (M1 := M ++ [.lst (kAcc (bT i) 27)] ++ [.lst [.d (.str nm), .d (.str "home"), .d (.str "value")]] ++ [.lst (kAcc (bT i) 27)] ++ [.lst [.d (.str nm), .d (.str "home"), .d (.str "value")]])
  · refine et_w (ew_orF (M1 := M ++ [.lst (kAcc (bT i) 27)] ++ [.lst [.d (.str nm), .d (.str "home"), .d (.str "value")]]) ?_ (ew_or1 ?_))
    · exact et_kn Fk hi (ex_var 1) h1 h2 hk (ex_to (ex_list (ea_cons (ex_var 3) (ea_cons ex_str (ea_cons ex_str ea_nil))) (Nat.le_of_ble_eq_true rfl)) (by simp) rfl) rfl sn (Nat.le_of_ble_eq_true rfl) rfl (fun _ => rfl) (by with_unfolding_all rfl)
    · exact et_kn Fk hi (ex_var 2) (by rw [List.append_assoc]; exact up h3) (by rw [List.append_assoc]; exact up h4) hk (ex_to (ex_list (ea_cons (ex_var 3) (ea_cons ex_str (ea_cons ex_str ea_nil))) (Nat.le_of_ble_eq_true rfl)) (by simp) rfl) rfl sn (Nat.le_of_ble_eq_true rfl) rfl (fun _ => rfl) (by with_unfolding_all rfl)
  · intro q
    cases q
  · intro _
    refine bx_nil (bx_one ?_)
    generalize hA : [MO.lst (kAcc (bT i) 27)] ++ [.lst [S.d (.str nm), .d (.str "home"), .d (.str "value")]] ++ [.lst (kAcc (bT i) 27)] ++ [.lst [.d (.str nm), .d (.str "home"), .d (.str "value")]] = A
    have eA : M ++ [MO.lst (kAcc (bT i) 27)] ++ [.lst [S.d (.str nm), .d (.str "home"), .d (.str "value")]] ++ [.lst (kAcc (bT i) 27)] ++ [.lst [.d (.str nm), .d (.str "home"), .d (.str "value")]] = M ++ A := by
      rw [← hA]
      simp
    rw [eA]
    apply sx_if (q := false) (M1 := M ++ A)
    · refine et_w (ew_orF (M1 := M ++ A) ?_ (ew_or1 ?_))
      · exact et_fn T hno (ex_var 1) (up h1) (up h2) (ex_var 0) sx (fun _ => rfl) (by with_unfolding_all rfl)
      · exact et_fn T hno (ex_var 2) (up h3) (up h4) (ex_var 0) sx (fun _ => rfl) (by with_unfolding_all rfl)
    · intro q
      cases q
    · intro _
      exact bx_nil (hN _ (by simp) (by simp))
theorem turn1_NoSuch {m : Ms} {cs : Nat → Addr} {M : Sto} {N : Nd} {x : PyData} {o1 d1 : Nat} {msg : Str} {z2 z3 : Option S} (F : KF m cs bT) (Fk : FnD m 1 "_law_kinds" ["e"] (Rkinds cs bT)) (hno : PySem.W.findIn m.K (.ref (cs 21)) "value" = some none) (sx : SeqAt.shaped x = true)
    (h1 : M[o1]? = some (.xo (cs 21) msg (.p d1))) (h2 : M[d1]? = some (.xd [("value", .d x)])) (hN : ∀ M', M.length ≤ M'.length → M'.take M.length = M → N.nx [some (.d x), some (.p o1), z2, z3] M') : BX (m.cs ["thing", "one", "other", "name"] (defScope s_right) 3) [some (.d x), some (.p o1), z2, z3] M (forBody ((defBody s_right).getD 2 (.Pass ⟨0, 0, 0, 0⟩))) N := by
  have T := F.q 21 (by decide)
  have up : ∀ {k : Nat} {e : MO} {A : Sto}, M[k]? = some e → (M ++ A)[k]? = some e := fun {k e A} q => by
    rw [List.getElem?_append_left (List.getElem?_eq_some_iff.mp q).1, q]
  refine bx_one ?_
  apply sx_if (q := false) (M1 := M ++ [.lst (kAcc (bT 21) 27)] ++ [.lst [.d (.str "NoSuch"), .d (.str "lookup")]])
  · refine et_w (ew_orF (M1 := M ++ [.lst (kAcc (bT 21) 27)] ++ [.lst [.d (.str "NoSuch"), .d (.str "lookup")]]) ?_ (ew_or1 ?_))
    · exact et_kn Fk (by decide) (ex_var 1) h1 h2 kacc_21 (ex_to (ex_list (ea_cons ex_str (ea_cons ex_str ea_nil)) (Nat.le_of_ble_eq_true rfl)) (by simp) rfl) rfl (by decide +kernel) (Nat.le_of_ble_eq_true rfl) rfl (fun _ => rfl) (by with_unfolding_all rfl)
    · exact et_fn T hno (ex_var 1) (by rw [List.append_assoc]; exact up h1) (by rw [List.append_assoc]; exact up h2) (ex_var 0) sx (fun _ => rfl) (by with_unfolding_all rfl)
  · intro q
    cases q
  · intro _
    exact bx_nil (hN _ (by simp) (by rw [List.append_assoc]; simp))
theorem turn1_TooMany {m : Ms} {cs : Nat → Addr} {M : Sto} {N : Nd} {x : PyData} {o1 d1 : Nat} {msg : Str} {z2 z3 : Option S} (F : KF m cs bT) (Fk : FnD m 1 "_law_kinds" ["e"] (Rkinds cs bT)) (hno : PySem.W.findIn m.K (.ref (cs 22)) "most" = some none) (sx : SeqAt.shaped x = true)
    (h1 : M[o1]? = some (.xo (cs 22) msg (.p d1))) (h2 : M[d1]? = some (.xd [("most", .d x)])) (hN : ∀ M', M.length ≤ M'.length → M'.take M.length = M → N.nx [some (.d x), some (.p o1), z2, z3] M') : BX (m.cs ["thing", "one", "other", "name"] (defScope s_right) 3) [some (.d x), some (.p o1), z2, z3] M (forBody ((defBody s_right).getD 3 (.Pass ⟨0, 0, 0, 0⟩))) N := by
  have T := F.q 22 (by decide)
  have up : ∀ {k : Nat} {e : MO} {A : Sto}, M[k]? = some e → (M ++ A)[k]? = some e := fun {k e A} q => by
    rw [List.getElem?_append_left (List.getElem?_eq_some_iff.mp q).1, q]
  refine bx_one ?_
  apply sx_if (q := false) (M1 := M ++ [.lst (kAcc (bT 22) 27)] ++ [.lst [.d (.str "TooMany"), .d (.str "overflow")]])
  · refine et_w (ew_orF (M1 := M ++ [.lst (kAcc (bT 22) 27)] ++ [.lst [.d (.str "TooMany"), .d (.str "overflow")]]) ?_ (ew_or1 ?_))
    · exact et_kn Fk (by decide) (ex_var 1) h1 h2 kacc_22 (ex_to (ex_list (ea_cons ex_str (ea_cons ex_str ea_nil)) (Nat.le_of_ble_eq_true rfl)) (by simp) rfl) rfl (by decide +kernel) (Nat.le_of_ble_eq_true rfl) rfl (fun _ => rfl) (by with_unfolding_all rfl)
    · exact et_fn T hno (ex_var 1) (by rw [List.append_assoc]; exact up h1) (by rw [List.append_assoc]; exact up h2) (ex_var 0) sx (fun _ => rfl) (by with_unfolding_all rfl)
  · intro q
    cases q
  · intro _
    exact bx_nil (hN _ (by simp) (by rw [List.append_assoc]; simp))
theorem ok_right {m : Ms} {cs : Nat → Addr} (h : HasD m "_law_right" s_right ["thing"]) (F : KF m cs bT) (FM : KM m cs) (Fk : FnD m 1 "_law_kinds" ["e"] (Rkinds cs bT)) (Fv : FnD m 3 "_law_valued" ["thing"] (Rvalued cs)) (Fp : FnD m 3 "_law_placed" ["thing"] (Rplaced cs))
    (no : ∀ j, j < 23 → PySem.W.findIn m.K (.ref (cs j)) (fldn.getD j "") = some none) : FnD m 4 "_law_right" ["thing"] Rright := by
  refine fnD_of h sc_right (by decide) ?_
  rintro args M r M' - ⟨x, sx, rfl, rfl, rfl, rfl⟩
  show BX _ _ _ (defBody s_right) _
  refine bx_cons ?_
  refine sx_for (ix_list' (ss := [.t [.p 1, .p 3, .d (.str "BadPerm")], .t [.p 5, .p 7, .d (.str "BadNumber")], .t [.p 10, .p 12, .d (.str "BadColours")]]) (m := .lst [.t [.p 1, .p 3, .d (.str "BadPerm")], .t [.p 5, .p 7, .d (.str "BadNumber")], .t [.p 10, .p 12, .d (.str "BadColours")]]) (ex_call [] Fv (ea_cons (ex_var 0) ea_nil) ⟨x, rfl, rfl, rfl, rfl⟩ (proj_sh (ds := [x]) (r := .p 14) (M2 := Mvalued cs x) rfl rfl) rfl) rfl rfl) (fun k Γ M => ∃ z1 z2 z3, Γ = [some (.d x), z1, z2, z3] ∧ M = Mvalued cs x) ⟨_, Fg.refl _, _, _, _, rfl, rfl⟩ (fun k Γ M _ e => by obtain ⟨_, _, _, _, rfl⟩ := e; exact ⟨_, rfl, rfl⟩) ?_ ?_
  · rintro k Γ M hk ⟨z1, z2, z3, rfl, rfl⟩
    have hk' : k < 3 := hk
    clear hk
    match k, hk' with
    | 0, _ =>
      refine ⟨[some (.d x), some (.p 1), some (.p 3), some (.d (.str "BadPerm"))], _, gx_tup (show Items (.t [.p 1, .p 3, .d (.str "BadPerm")]) _ from rfl) (gxs_cons (gx_name 1) (gxs_cons (gx_name 2) (gxs_cons (gx_name 3) gxs_nil))), ?_⟩
      refine turn_value (M := Mvalued cs x) (i := 8) (o1 := 1) (o2 := 3) (d1 := 0) (d2 := 2) (msg := "no such permutation") F Fk (by decide) (kacc_own 8 (by decide)) (no 8 (by decide)) sx rfl rfl rfl rfl (by decide +kernel) ?_
      exact fun M' e0 e1 => nxt_of (n := 15) (Γ' := [some (.d x), some (.p 1), some (.p 3), some (.d (.str "BadPerm"))]) (M' := Mvalued cs x) e0 e1 (lo_valued cs x) ⟨rfl, rfl, rfl, rfl, trivial⟩ ⟨trivial, Nat.le_of_ble_eq_true rfl, Nat.le_of_ble_eq_true rfl, trivial, trivial⟩ ⟨_, _, _, rfl, rfl⟩
    | 1, _ =>
      refine ⟨[some (.d x), some (.p 5), some (.p 7), some (.d (.str "BadNumber"))], _, gx_tup (show Items (.t [.p 5, .p 7, .d (.str "BadNumber")]) _ from rfl) (gxs_cons (gx_name 1) (gxs_cons (gx_name 2) (gxs_cons (gx_name 3) gxs_nil))), ?_⟩
      refine turn_value (M := Mvalued cs x) (i := 5) (o1 := 5) (o2 := 7) (d1 := 4) (d2 := 6) (msg := "no such number") F Fk (by decide) (kacc_own 5 (by decide)) (no 5 (by decide)) sx rfl rfl rfl rfl (by decide +kernel) ?_
      exact fun M' e0 e1 => nxt_of (n := 15) (Γ' := [some (.d x), some (.p 5), some (.p 7), some (.d (.str "BadNumber"))]) (M' := Mvalued cs x) e0 e1 (lo_valued cs x) ⟨rfl, rfl, rfl, rfl, trivial⟩ ⟨trivial, Nat.le_of_ble_eq_true rfl, Nat.le_of_ble_eq_true rfl, trivial, trivial⟩ ⟨_, _, _, rfl, rfl⟩
    | 2, _ =>
      refine ⟨[some (.d x), some (.p 10), some (.p 12), some (.d (.str "BadColours"))], _, gx_tup (show Items (.t [.p 10, .p 12, .d (.str "BadColours")]) _ from rfl) (gxs_cons (gx_name 1) (gxs_cons (gx_name 2) (gxs_cons (gx_name 3) gxs_nil))), ?_⟩
      refine turn_value (M := Mvalued cs x) (i := 0) (o1 := 10) (o2 := 12) (d1 := 9) (d2 := 11) (msg := "no such colours") F Fk (by decide) (kacc_own 0 (by decide)) (no 0 (by decide)) sx rfl rfl rfl rfl (by decide +kernel) ?_
      exact fun M' e0 e1 => nxt_of (n := 15) (Γ' := [some (.d x), some (.p 10), some (.p 12), some (.d (.str "BadColours"))]) (M' := Mvalued cs x) e0 e1 (lo_valued cs x) ⟨rfl, rfl, rfl, rfl, trivial⟩ ⟨trivial, Nat.le_of_ble_eq_true rfl, Nat.le_of_ble_eq_true rfl, trivial, trivial⟩ ⟨_, _, _, rfl, rfl⟩
    | n + 3, hk => exact absurd hk (Nat.not_lt.mpr (Nat.le_add_left 3 n))
  · rintro Γ M ⟨z1, z2, z3, rfl, rfl⟩
    refine bx_cons ?_
    refine sx_for (ix_list' (ss := [.t [.p 16, .p 18, .d (.str "BadPuzzle")], .t [.p 20, .p 22, .d (.str "BadWord")], .t [.p 25, .p 27, .d (.str "BadRecipe")], .t [.p 31, .p 33, .d (.str "BadLadder")], .t [.p 37, .p 39, .d (.str "BadPaper")], .t [.p 43, .p 45, .d (.str "BadPieces")], .t [.p 49, .p 51, .d (.str "BadGlue")], .t [.p 53, .p 55, .d (.str "BadWeb")], .t [.p 59, .p 61, .d (.str "BadText")], .t [.p 63, .p 65, .d (.str "BadDeed")], .t [.p 69, .p 71, .d (.str "BadStages")], .t [.p 75, .p 77, .d (.str "BadMacros")], .t [.p 81, .p 83, .d (.str "BadOrders")], .t [.p 87, .p 89, .d (.str "BadRow")], .t [.p 91, .p 93, .d (.str "BadTask")], .t [.p 97, .p 99, .d (.str "BadReplay")], .t [.p 103, .p 105, .d (.str "BadPrices")], .t [.p 109, .p 111, .d (.str "BadSystem")]]) (m := .lst [.t [.p 16, .p 18, .d (.str "BadPuzzle")], .t [.p 20, .p 22, .d (.str "BadWord")], .t [.p 25, .p 27, .d (.str "BadRecipe")], .t [.p 31, .p 33, .d (.str "BadLadder")], .t [.p 37, .p 39, .d (.str "BadPaper")], .t [.p 43, .p 45, .d (.str "BadPieces")], .t [.p 49, .p 51, .d (.str "BadGlue")], .t [.p 53, .p 55, .d (.str "BadWeb")], .t [.p 59, .p 61, .d (.str "BadText")], .t [.p 63, .p 65, .d (.str "BadDeed")], .t [.p 69, .p 71, .d (.str "BadStages")], .t [.p 75, .p 77, .d (.str "BadMacros")], .t [.p 81, .p 83, .d (.str "BadOrders")], .t [.p 87, .p 89, .d (.str "BadRow")], .t [.p 91, .p 93, .d (.str "BadTask")], .t [.p 97, .p 99, .d (.str "BadReplay")], .t [.p 103, .p 105, .d (.str "BadPrices")], .t [.p 109, .p 111, .d (.str "BadSystem")]]) (ex_call [] Fp (ea_cons (ex_var 0) ea_nil) ⟨x, rfl, rfl, rfl, rfl⟩ (proj_sh (ds := [x]) (r := .p 113) (M := Mvalued cs x) (M2 := Mboth cs x) rfl (both_eq cs x)) rfl) rfl rfl) (fun k Γ M => ∃ z1 z2 z3, Γ = [some (.d x), z1, z2, z3] ∧ M = Mboth cs x) ⟨_, Fg.refl _, _, _, _, rfl, rfl⟩ (fun k Γ M _ e => by obtain ⟨_, _, _, _, rfl⟩ := e; exact ⟨_, rfl, rfl⟩) ?_ ?_
    · rintro k Γ M hk ⟨z1, z2, z3, rfl, rfl⟩
      have hk' : k < 18 := hk
      clear hk
      match k, hk' with
      | 0, _ =>
        refine ⟨[some (.d x), some (.p 16), some (.p 18), some (.d (.str "BadPuzzle"))], _, gx_tup (show Items (.t [.p 16, .p 18, .d (.str "BadPuzzle")]) _ from rfl) (gxs_cons (gx_name 1) (gxs_cons (gx_name 2) (gxs_cons (gx_name 3) gxs_nil))), ?_⟩
        refine turn_place (M := Mboth cs x) (i := 11) (o1 := 16) (o2 := 18) (d1 := 15) (d2 := 17) (msg := "no such puzzle") F Fk (by decide) (kacc_own 11 (by decide)) (no 11 (by decide)) sx rfl rfl rfl rfl (by decide +kernel) ?_
        exact fun M' e0 e1 => nxt_of (n := 114) (Γ' := [some (.d x), some (.p 16), some (.p 18), some (.d (.str "BadPuzzle"))]) (M' := Mboth cs x) e0 e1 (lo_both cs x) ⟨rfl, rfl, rfl, rfl, trivial⟩ ⟨trivial, Nat.le_of_ble_eq_true rfl, Nat.le_of_ble_eq_true rfl, trivial, trivial⟩ ⟨_, _, _, rfl, rfl⟩
      | 1, _ =>
        refine ⟨[some (.d x), some (.p 20), some (.p 22), some (.d (.str "BadWord"))], _, gx_tup (show Items (.t [.p 20, .p 22, .d (.str "BadWord")]) _ from rfl) (gxs_cons (gx_name 1) (gxs_cons (gx_name 2) (gxs_cons (gx_name 3) gxs_nil))), ?_⟩
        refine turn_place (M := Mboth cs x) (i := 20) (o1 := 20) (o2 := 22) (d1 := 19) (d2 := 21) (msg := "no such word") F Fk (by decide) (kacc_own 20 (by decide)) (no 20 (by decide)) sx rfl rfl rfl rfl (by decide +kernel) ?_
        exact fun M' e0 e1 => nxt_of (n := 114) (Γ' := [some (.d x), some (.p 20), some (.p 22), some (.d (.str "BadWord"))]) (M' := Mboth cs x) e0 e1 (lo_both cs x) ⟨rfl, rfl, rfl, rfl, trivial⟩ ⟨trivial, Nat.le_of_ble_eq_true rfl, Nat.le_of_ble_eq_true rfl, trivial, trivial⟩ ⟨_, _, _, rfl, rfl⟩
      | 2, _ =>
        refine ⟨[some (.d x), some (.p 25), some (.p 27), some (.d (.str "BadRecipe"))], _, gx_tup (show Items (.t [.p 25, .p 27, .d (.str "BadRecipe")]) _ from rfl) (gxs_cons (gx_name 1) (gxs_cons (gx_name 2) (gxs_cons (gx_name 3) gxs_nil))), ?_⟩
        refine turn_place (M := Mboth cs x) (i := 12) (o1 := 25) (o2 := 27) (d1 := 24) (d2 := 26) (msg := "no such recipe") F Fk (by decide) (kacc_own 12 (by decide)) (no 12 (by decide)) sx rfl rfl rfl rfl (by decide +kernel) ?_
        exact fun M' e0 e1 => nxt_of (n := 114) (Γ' := [some (.d x), some (.p 25), some (.p 27), some (.d (.str "BadRecipe"))]) (M' := Mboth cs x) e0 e1 (lo_both cs x) ⟨rfl, rfl, rfl, rfl, trivial⟩ ⟨trivial, Nat.le_of_ble_eq_true rfl, Nat.le_of_ble_eq_true rfl, trivial, trivial⟩ ⟨_, _, _, rfl, rfl⟩
      | 3, _ =>
        refine ⟨[some (.d x), some (.p 31), some (.p 33), some (.d (.str "BadLadder"))], _, gx_tup (show Items (.t [.p 31, .p 33, .d (.str "BadLadder")]) _ from rfl) (gxs_cons (gx_name 1) (gxs_cons (gx_name 2) (gxs_cons (gx_name 3) gxs_nil))), ?_⟩
        refine turn_place (M := Mboth cs x) (i := 3) (o1 := 31) (o2 := 33) (d1 := 30) (d2 := 32) (msg := "no such ladder") F Fk (by decide) (kacc_own 3 (by decide)) (no 3 (by decide)) sx rfl rfl rfl rfl (by decide +kernel) ?_
        exact fun M' e0 e1 => nxt_of (n := 114) (Γ' := [some (.d x), some (.p 31), some (.p 33), some (.d (.str "BadLadder"))]) (M' := Mboth cs x) e0 e1 (lo_both cs x) ⟨rfl, rfl, rfl, rfl, trivial⟩ ⟨trivial, Nat.le_of_ble_eq_true rfl, Nat.le_of_ble_eq_true rfl, trivial, trivial⟩ ⟨_, _, _, rfl, rfl⟩
      | 4, _ =>
        refine ⟨[some (.d x), some (.p 37), some (.p 39), some (.d (.str "BadPaper"))], _, gx_tup (show Items (.t [.p 37, .p 39, .d (.str "BadPaper")]) _ from rfl) (gxs_cons (gx_name 1) (gxs_cons (gx_name 2) (gxs_cons (gx_name 3) gxs_nil))), ?_⟩
        refine turn_place (M := Mboth cs x) (i := 7) (o1 := 37) (o2 := 39) (d1 := 36) (d2 := 38) (msg := "no such paper") F Fk (by decide) (kacc_own 7 (by decide)) (no 7 (by decide)) sx rfl rfl rfl rfl (by decide +kernel) ?_
        exact fun M' e0 e1 => nxt_of (n := 114) (Γ' := [some (.d x), some (.p 37), some (.p 39), some (.d (.str "BadPaper"))]) (M' := Mboth cs x) e0 e1 (lo_both cs x) ⟨rfl, rfl, rfl, rfl, trivial⟩ ⟨trivial, Nat.le_of_ble_eq_true rfl, Nat.le_of_ble_eq_true rfl, trivial, trivial⟩ ⟨_, _, _, rfl, rfl⟩
      | 5, _ =>
        refine ⟨[some (.d x), some (.p 43), some (.p 45), some (.d (.str "BadPieces"))], _, gx_tup (show Items (.t [.p 43, .p 45, .d (.str "BadPieces")]) _ from rfl) (gxs_cons (gx_name 1) (gxs_cons (gx_name 2) (gxs_cons (gx_name 3) gxs_nil))), ?_⟩
        refine turn_place (M := Mboth cs x) (i := 9) (o1 := 43) (o2 := 45) (d1 := 42) (d2 := 44) (msg := "no such pieces") F Fk (by decide) (kacc_own 9 (by decide)) (no 9 (by decide)) sx rfl rfl rfl rfl (by decide +kernel) ?_
        exact fun M' e0 e1 => nxt_of (n := 114) (Γ' := [some (.d x), some (.p 43), some (.p 45), some (.d (.str "BadPieces"))]) (M' := Mboth cs x) e0 e1 (lo_both cs x) ⟨rfl, rfl, rfl, rfl, trivial⟩ ⟨trivial, Nat.le_of_ble_eq_true rfl, Nat.le_of_ble_eq_true rfl, trivial, trivial⟩ ⟨_, _, _, rfl, rfl⟩
      | 6, _ =>
        refine ⟨[some (.d x), some (.p 49), some (.p 51), some (.d (.str "BadGlue"))], _, gx_tup (show Items (.t [.p 49, .p 51, .d (.str "BadGlue")]) _ from rfl) (gxs_cons (gx_name 1) (gxs_cons (gx_name 2) (gxs_cons (gx_name 3) gxs_nil))), ?_⟩
        refine turn_place (M := Mboth cs x) (i := 2) (o1 := 49) (o2 := 51) (d1 := 48) (d2 := 50) (msg := "no such glue") F Fk (by decide) (kacc_own 2 (by decide)) (no 2 (by decide)) sx rfl rfl rfl rfl (by decide +kernel) ?_
        exact fun M' e0 e1 => nxt_of (n := 114) (Γ' := [some (.d x), some (.p 49), some (.p 51), some (.d (.str "BadGlue"))]) (M' := Mboth cs x) e0 e1 (lo_both cs x) ⟨rfl, rfl, rfl, rfl, trivial⟩ ⟨trivial, Nat.le_of_ble_eq_true rfl, Nat.le_of_ble_eq_true rfl, trivial, trivial⟩ ⟨_, _, _, rfl, rfl⟩
      | 7, _ =>
        refine ⟨[some (.d x), some (.p 53), some (.p 55), some (.d (.str "BadWeb"))], _, gx_tup (show Items (.t [.p 53, .p 55, .d (.str "BadWeb")]) _ from rfl) (gxs_cons (gx_name 1) (gxs_cons (gx_name 2) (gxs_cons (gx_name 3) gxs_nil))), ?_⟩
        refine turn_place (M := Mboth cs x) (i := 19) (o1 := 53) (o2 := 55) (d1 := 52) (d2 := 54) (msg := "no such web") F Fk (by decide) (kacc_own 19 (by decide)) (no 19 (by decide)) sx rfl rfl rfl rfl (by decide +kernel) ?_
        exact fun M' e0 e1 => nxt_of (n := 114) (Γ' := [some (.d x), some (.p 53), some (.p 55), some (.d (.str "BadWeb"))]) (M' := Mboth cs x) e0 e1 (lo_both cs x) ⟨rfl, rfl, rfl, rfl, trivial⟩ ⟨trivial, Nat.le_of_ble_eq_true rfl, Nat.le_of_ble_eq_true rfl, trivial, trivial⟩ ⟨_, _, _, rfl, rfl⟩
      | 8, _ =>
        refine ⟨[some (.d x), some (.p 59), some (.p 61), some (.d (.str "BadText"))], _, gx_tup (show Items (.t [.p 59, .p 61, .d (.str "BadText")]) _ from rfl) (gxs_cons (gx_name 1) (gxs_cons (gx_name 2) (gxs_cons (gx_name 3) gxs_nil))), ?_⟩
        refine turn_place (M := Mboth cs x) (i := 18) (o1 := 59) (o2 := 61) (d1 := 58) (d2 := 60) (msg := "no such text") F Fk (by decide) (kacc_own 18 (by decide)) (no 18 (by decide)) sx rfl rfl rfl rfl (by decide +kernel) ?_
        exact fun M' e0 e1 => nxt_of (n := 114) (Γ' := [some (.d x), some (.p 59), some (.p 61), some (.d (.str "BadText"))]) (M' := Mboth cs x) e0 e1 (lo_both cs x) ⟨rfl, rfl, rfl, rfl, trivial⟩ ⟨trivial, Nat.le_of_ble_eq_true rfl, Nat.le_of_ble_eq_true rfl, trivial, trivial⟩ ⟨_, _, _, rfl, rfl⟩
      | 9, _ =>
        refine ⟨[some (.d x), some (.p 63), some (.p 65), some (.d (.str "BadDeed"))], _, gx_tup (show Items (.t [.p 63, .p 65, .d (.str "BadDeed")]) _ from rfl) (gxs_cons (gx_name 1) (gxs_cons (gx_name 2) (gxs_cons (gx_name 3) gxs_nil))), ?_⟩
        refine turn_place (M := Mboth cs x) (i := 1) (o1 := 63) (o2 := 65) (d1 := 62) (d2 := 64) (msg := "no such deed") F Fk (by decide) (kacc_own 1 (by decide)) (no 1 (by decide)) sx rfl rfl rfl rfl (by decide +kernel) ?_
        exact fun M' e0 e1 => nxt_of (n := 114) (Γ' := [some (.d x), some (.p 63), some (.p 65), some (.d (.str "BadDeed"))]) (M' := Mboth cs x) e0 e1 (lo_both cs x) ⟨rfl, rfl, rfl, rfl, trivial⟩ ⟨trivial, Nat.le_of_ble_eq_true rfl, Nat.le_of_ble_eq_true rfl, trivial, trivial⟩ ⟨_, _, _, rfl, rfl⟩
      | 10, _ =>
        refine ⟨[some (.d x), some (.p 69), some (.p 71), some (.d (.str "BadStages"))], _, gx_tup (show Items (.t [.p 69, .p 71, .d (.str "BadStages")]) _ from rfl) (gxs_cons (gx_name 1) (gxs_cons (gx_name 2) (gxs_cons (gx_name 3) gxs_nil))), ?_⟩
        refine turn_place (M := Mboth cs x) (i := 15) (o1 := 69) (o2 := 71) (d1 := 68) (d2 := 70) (msg := "no such stages") F Fk (by decide) (kacc_own 15 (by decide)) (no 15 (by decide)) sx rfl rfl rfl rfl (by decide +kernel) ?_
        exact fun M' e0 e1 => nxt_of (n := 114) (Γ' := [some (.d x), some (.p 69), some (.p 71), some (.d (.str "BadStages"))]) (M' := Mboth cs x) e0 e1 (lo_both cs x) ⟨rfl, rfl, rfl, rfl, trivial⟩ ⟨trivial, Nat.le_of_ble_eq_true rfl, Nat.le_of_ble_eq_true rfl, trivial, trivial⟩ ⟨_, _, _, rfl, rfl⟩
      | 11, _ =>
        refine ⟨[some (.d x), some (.p 75), some (.p 77), some (.d (.str "BadMacros"))], _, gx_tup (show Items (.t [.p 75, .p 77, .d (.str "BadMacros")]) _ from rfl) (gxs_cons (gx_name 1) (gxs_cons (gx_name 2) (gxs_cons (gx_name 3) gxs_nil))), ?_⟩
        refine turn_place (M := Mboth cs x) (i := 4) (o1 := 75) (o2 := 77) (d1 := 74) (d2 := 76) (msg := "no such macros") F Fk (by decide) (kacc_own 4 (by decide)) (no 4 (by decide)) sx rfl rfl rfl rfl (by decide +kernel) ?_
        exact fun M' e0 e1 => nxt_of (n := 114) (Γ' := [some (.d x), some (.p 75), some (.p 77), some (.d (.str "BadMacros"))]) (M' := Mboth cs x) e0 e1 (lo_both cs x) ⟨rfl, rfl, rfl, rfl, trivial⟩ ⟨trivial, Nat.le_of_ble_eq_true rfl, Nat.le_of_ble_eq_true rfl, trivial, trivial⟩ ⟨_, _, _, rfl, rfl⟩
      | 12, _ =>
        refine ⟨[some (.d x), some (.p 81), some (.p 83), some (.d (.str "BadOrders"))], _, gx_tup (show Items (.t [.p 81, .p 83, .d (.str "BadOrders")]) _ from rfl) (gxs_cons (gx_name 1) (gxs_cons (gx_name 2) (gxs_cons (gx_name 3) gxs_nil))), ?_⟩
        refine turn_place (M := Mboth cs x) (i := 6) (o1 := 81) (o2 := 83) (d1 := 80) (d2 := 82) (msg := "no such orders") F Fk (by decide) (kacc_own 6 (by decide)) (no 6 (by decide)) sx rfl rfl rfl rfl (by decide +kernel) ?_
        exact fun M' e0 e1 => nxt_of (n := 114) (Γ' := [some (.d x), some (.p 81), some (.p 83), some (.d (.str "BadOrders"))]) (M' := Mboth cs x) e0 e1 (lo_both cs x) ⟨rfl, rfl, rfl, rfl, trivial⟩ ⟨trivial, Nat.le_of_ble_eq_true rfl, Nat.le_of_ble_eq_true rfl, trivial, trivial⟩ ⟨_, _, _, rfl, rfl⟩
      | 13, _ =>
        refine ⟨[some (.d x), some (.p 87), some (.p 89), some (.d (.str "BadRow"))], _, gx_tup (show Items (.t [.p 87, .p 89, .d (.str "BadRow")]) _ from rfl) (gxs_cons (gx_name 1) (gxs_cons (gx_name 2) (gxs_cons (gx_name 3) gxs_nil))), ?_⟩
        refine turn_place (M := Mboth cs x) (i := 14) (o1 := 87) (o2 := 89) (d1 := 86) (d2 := 88) (msg := "no such row") F Fk (by decide) (kacc_own 14 (by decide)) (no 14 (by decide)) sx rfl rfl rfl rfl (by decide +kernel) ?_
        exact fun M' e0 e1 => nxt_of (n := 114) (Γ' := [some (.d x), some (.p 87), some (.p 89), some (.d (.str "BadRow"))]) (M' := Mboth cs x) e0 e1 (lo_both cs x) ⟨rfl, rfl, rfl, rfl, trivial⟩ ⟨trivial, Nat.le_of_ble_eq_true rfl, Nat.le_of_ble_eq_true rfl, trivial, trivial⟩ ⟨_, _, _, rfl, rfl⟩
      | 14, _ =>
        refine ⟨[some (.d x), some (.p 91), some (.p 93), some (.d (.str "BadTask"))], _, gx_tup (show Items (.t [.p 91, .p 93, .d (.str "BadTask")]) _ from rfl) (gxs_cons (gx_name 1) (gxs_cons (gx_name 2) (gxs_cons (gx_name 3) gxs_nil))), ?_⟩
        refine turn_place (M := Mboth cs x) (i := 17) (o1 := 91) (o2 := 93) (d1 := 90) (d2 := 92) (msg := "no such task") F Fk (by decide) (kacc_own 17 (by decide)) (no 17 (by decide)) sx rfl rfl rfl rfl (by decide +kernel) ?_
        exact fun M' e0 e1 => nxt_of (n := 114) (Γ' := [some (.d x), some (.p 91), some (.p 93), some (.d (.str "BadTask"))]) (M' := Mboth cs x) e0 e1 (lo_both cs x) ⟨rfl, rfl, rfl, rfl, trivial⟩ ⟨trivial, Nat.le_of_ble_eq_true rfl, Nat.le_of_ble_eq_true rfl, trivial, trivial⟩ ⟨_, _, _, rfl, rfl⟩
      | 15, _ =>
        refine ⟨[some (.d x), some (.p 97), some (.p 99), some (.d (.str "BadReplay"))], _, gx_tup (show Items (.t [.p 97, .p 99, .d (.str "BadReplay")]) _ from rfl) (gxs_cons (gx_name 1) (gxs_cons (gx_name 2) (gxs_cons (gx_name 3) gxs_nil))), ?_⟩
        refine turn_place (M := Mboth cs x) (i := 13) (o1 := 97) (o2 := 99) (d1 := 96) (d2 := 98) (msg := "no such replay") F Fk (by decide) (kacc_own 13 (by decide)) (no 13 (by decide)) sx rfl rfl rfl rfl (by decide +kernel) ?_
        exact fun M' e0 e1 => nxt_of (n := 114) (Γ' := [some (.d x), some (.p 97), some (.p 99), some (.d (.str "BadReplay"))]) (M' := Mboth cs x) e0 e1 (lo_both cs x) ⟨rfl, rfl, rfl, rfl, trivial⟩ ⟨trivial, Nat.le_of_ble_eq_true rfl, Nat.le_of_ble_eq_true rfl, trivial, trivial⟩ ⟨_, _, _, rfl, rfl⟩
      | 16, _ =>
        refine ⟨[some (.d x), some (.p 103), some (.p 105), some (.d (.str "BadPrices"))], _, gx_tup (show Items (.t [.p 103, .p 105, .d (.str "BadPrices")]) _ from rfl) (gxs_cons (gx_name 1) (gxs_cons (gx_name 2) (gxs_cons (gx_name 3) gxs_nil))), ?_⟩
        refine turn_place (M := Mboth cs x) (i := 10) (o1 := 103) (o2 := 105) (d1 := 102) (d2 := 104) (msg := "no such prices") F Fk (by decide) (kacc_own 10 (by decide)) (no 10 (by decide)) sx rfl rfl rfl rfl (by decide +kernel) ?_
        exact fun M' e0 e1 => nxt_of (n := 114) (Γ' := [some (.d x), some (.p 103), some (.p 105), some (.d (.str "BadPrices"))]) (M' := Mboth cs x) e0 e1 (lo_both cs x) ⟨rfl, rfl, rfl, rfl, trivial⟩ ⟨trivial, Nat.le_of_ble_eq_true rfl, Nat.le_of_ble_eq_true rfl, trivial, trivial⟩ ⟨_, _, _, rfl, rfl⟩
      | 17, _ =>
        refine ⟨[some (.d x), some (.p 109), some (.p 111), some (.d (.str "BadSystem"))], _, gx_tup (show Items (.t [.p 109, .p 111, .d (.str "BadSystem")]) _ from rfl) (gxs_cons (gx_name 1) (gxs_cons (gx_name 2) (gxs_cons (gx_name 3) gxs_nil))), ?_⟩
        refine turn_place (M := Mboth cs x) (i := 16) (o1 := 109) (o2 := 111) (d1 := 108) (d2 := 110) (msg := "no such system") F Fk (by decide) (kacc_own 16 (by decide)) (no 16 (by decide)) sx rfl rfl rfl rfl (by decide +kernel) ?_
        exact fun M' e0 e1 => nxt_of (n := 114) (Γ' := [some (.d x), some (.p 109), some (.p 111), some (.d (.str "BadSystem"))]) (M' := Mboth cs x) e0 e1 (lo_both cs x) ⟨rfl, rfl, rfl, rfl, trivial⟩ ⟨trivial, Nat.le_of_ble_eq_true rfl, Nat.le_of_ble_eq_true rfl, trivial, trivial⟩ ⟨_, _, _, rfl, rfl⟩
      | n + 18, hk => exact absurd hk (Nat.not_lt.mpr (Nat.le_add_left 18 n))
    · rintro Γ M ⟨z1, z2, z3, rfl, rfl⟩
      refine bx_cons ?_
      have w : XM m "NoSuch" (cs 21) "value" "nothing so called" "value" true := FM 21 (by decide)
      refine sx_for (ix_tup' (ss := [.p 115, .p 117]) (s := .t [.p 115, .p 117]) (M1 := M3 cs x) (ex_to (M1 := mkx (mkx (Mboth cs x) (cs 21) "value" "nothing so called" (.d x)) (cs 21) "value" "nothing so called" (.d x)) (ex_tup (ea_cons (ex_mkx w (ex_var 0)) (ea_cons (ex_mkxK w (ex_var 0)) ea_nil)) (Nat.le_of_ble_eq_true rfl)) rfl rfl) rfl) (fun k Γ M => ∃ z1 z2 z3, Γ = [some (.d x), z1, z2, z3] ∧ M = M3 cs x) ⟨_, Fg.refl _, _, _, _, rfl, rfl⟩ (fun k Γ M _ e => trivial) ?_ ?_
      · rintro k Γ M hk ⟨z1, z2, z3, rfl, rfl⟩
        have hk' : k < 2 := hk
        clear hk
        match k, hk' with
        | 0, _ =>
          refine ⟨[some (.d x), some (.p 115), z2, z3], _, gx_name 1, ?_⟩
          refine turn1_NoSuch (M := M3 cs x) (o1 := 115) (d1 := 114) (msg := "nothing so called") F Fk (no 21 (by decide)) sx rfl rfl ?_
          exact fun M' e0 e1 => nxt_of (n := 118) (Γ' := [some (.d x), none, none, none]) (M' := M3 cs x) e0 e1 (lo_3 cs x) ⟨rfl, trivial⟩ ⟨trivial, trivial⟩ ⟨_, _, _, rfl, rfl⟩
        | 1, _ =>
          refine ⟨[some (.d x), some (.p 117), z2, z3], _, gx_name 1, ?_⟩
          refine turn1_NoSuch (M := M3 cs x) (o1 := 117) (d1 := 116) (msg := "nothing so called") F Fk (no 21 (by decide)) sx rfl rfl ?_
          exact fun M' e0 e1 => nxt_of (n := 118) (Γ' := [some (.d x), none, none, none]) (M' := M3 cs x) e0 e1 (lo_3 cs x) ⟨rfl, trivial⟩ ⟨trivial, trivial⟩ ⟨_, _, _, rfl, rfl⟩
        | n + 2, hk => exact absurd hk (Nat.not_lt.mpr (Nat.le_add_left 2 n))
      · rintro Γ M ⟨z1, z2, z3, rfl, rfl⟩
        refine bx_cons ?_
        have w : XM m "TooMany" (cs 22) "most" "too many" "most" false := FM 22 (by decide)
        refine sx_for (ix_tup' (ss := [.p 119, .p 121]) (s := .t [.p 119, .p 121]) (M1 := M4 cs x) (ex_to (M1 := mkx (mkx (M3 cs x) (cs 22) "most" "too many" (.d x)) (cs 22) "most" "too many" (.d x)) (ex_tup (ea_cons (ex_mkx w (ex_var 0)) (ea_cons (ex_mkxK w (ex_var 0)) ea_nil)) (Nat.le_of_ble_eq_true rfl)) rfl rfl) rfl) (fun k Γ M => ∃ z1 z2 z3, Γ = [some (.d x), z1, z2, z3] ∧ M = M4 cs x) ⟨_, Fg.refl _, _, _, _, rfl, rfl⟩ (fun k Γ M _ e => trivial) ?_ ?_
        · rintro k Γ M hk ⟨z1, z2, z3, rfl, rfl⟩
          have hk' : k < 2 := hk
          clear hk
          match k, hk' with
          | 0, _ =>
            refine ⟨[some (.d x), some (.p 119), z2, z3], _, gx_name 1, ?_⟩
            refine turn1_TooMany (M := M4 cs x) (o1 := 119) (d1 := 118) (msg := "too many") F Fk (no 22 (by decide)) sx rfl rfl ?_
            exact fun M' e0 e1 => nxt_of (n := 122) (Γ' := [some (.d x), none, none, none]) (M' := M4 cs x) e0 e1 (lo_4 cs x) ⟨rfl, trivial⟩ ⟨trivial, trivial⟩ ⟨_, _, _, rfl, rfl⟩
          | 1, _ =>
            refine ⟨[some (.d x), some (.p 121), z2, z3], _, gx_name 1, ?_⟩
            refine turn1_TooMany (M := M4 cs x) (o1 := 121) (d1 := 120) (msg := "too many") F Fk (no 22 (by decide)) sx rfl rfl ?_
            exact fun M' e0 e1 => nxt_of (n := 122) (Γ' := [some (.d x), none, none, none]) (M' := M4 cs x) e0 e1 (lo_4 cs x) ⟨rfl, trivial⟩ ⟨trivial, trivial⟩ ⟨_, _, _, rfl, rfl⟩
          | n + 2, hk => exact absurd hk (Nat.not_lt.mpr (Nat.le_add_left 2 n))
        · rintro Γ M ⟨z1, z2, z3, rfl, rfl⟩
          refine bx_one ?_
          apply sx_ret
          · exact ex_bool
          · exact fin0
end K

namespace K
open PySem PySem.Spec PyProof.Rows L2 DL DX
local macro_rules | `(tactic| walk_at "go") => `(tactic| first
  | exact ex_int | exact ex_str | exact ex_bool | exact ex_none
  | exact ex_var 0 | exact ex_var 1 | exact ex_var 2 | exact ex_var 3 | exact ex_var 4 | exact ex_var 5
  | (apply ex_bin <;> walk_at "go")
  | (apply ex_list <;> walk_at "go")
  | (apply ex_tup <;> walk_at "go")
  | (apply ea_cons <;> walk_at "go") | exact ea_nil
  | exact os_add | exact os_sub | (refine os_mod ?_; walk_at "go") | (refine os_div ?_; walk_at "go") | (refine os_mul ?_; walk_at "go")
  | (refine os_pow ⟨?_, ?_, ?_⟩ <;> decide)
  | rfl | assumption | (intro _; rfl) | (intro _ _; rfl) | decide | omega | skip)
abbrev s_law : Stmt := top 33
abbrev NL : List Str := ["script", "k", "cell", "state", "number", "some", "others", "thing", "made", "e", "one", "other", "name"]
theorem sc_law : FnScope NL ["script"] (defScope s_law) := ⟨rfl, rfl, rfl, by decide +kernel, rfl, by decide +kernel, by decide +kernel⟩
abbrev cL (m : Ms) (a : Addr) (ns : List Int) : Cs := m.csE NL (defScope s_law) 4 (entS m.K a ns)
def cells (ns : List Int) : List Int := ns.take 4 ++ [ns.sum]
def B3 (ns : List Int) : Sto := [.lst (intsS (ns.take 4)), .lst (intsS [ns.sum]), .lst (intsS (cells ns))]
theorem ints_app (xs ys : List Int) : intsS (xs ++ ys) = intsS xs ++ intsS ys := List.map_append
theorem lo_ints (n : Nat) : ∀ ns : List Int, loL n (intsS ns)
  | [] => trivial
  | x :: l => ⟨trivial, lo_ints n l⟩
theorem lo_B3 (n : Nat) (ns : List Int) : loMs n (B3 ns) := ⟨lo_ints _ _, lo_ints _ _, lo_ints _ _, trivial⟩
def dItems (n : Int) : List PyData := [.int n, .int (0 - n), .str (repS "ab" (n % 50)), .tuple [.str "rungs", .tuple [.int 0, .int n]], .none, .tuple [.int (10 ^ (30 : Int).toNat), .tuple []], .tuple [.int n, .int n, .int n, .int n, .int n, .int n, .int n, .int n, .int n]]
theorem rep_ok (n : Int) : (repS "ab" (n % 50)).length ≤ 1000000 ∧ SeqAt.shaped (.str (repS "ab" (n % 50))) = true := by
  have h0 : 0 ≤ n % 50 := Int.emod_nonneg _ (by decide)
  have h1 : n % 50 < 50 := Int.emod_lt_of_pos _ (by decide)
  generalize n % 50 = q at h0 h1
  have key : ∀ i : Fin 50, (repS "ab" (i.val : Int)).length ≤ 1000000 ∧ SeqAt.shaped (.str (repS "ab" (i.val : Int))) = true := by decide +kernel
  have := key ⟨q.toNat, by omega⟩
  simpa [Int.toNat_of_nonneg h0] using this
theorem items_ok (n d : Int) (h0 : 0 ≤ d) (h1 : d < 7) : ∃ x, atI ((dItems n).map S.d) d = some (.d x) ∧ SeqAt.shaped x = true := by
  have : d = 0 ∨ d = 1 ∨ d = 2 ∨ d = 3 ∨ d = 4 ∨ d = 5 ∨ d = 6 := by omega
  rcases this with e | e | e | e | e | e | e <;> rw [e]
  · exact ⟨_, rfl, rfl⟩
  · exact ⟨_, rfl, rfl⟩
  · exact ⟨_, rfl, (rep_ok n).2⟩
  · refine ⟨_, rfl, ?_⟩
    have e2 : ∀ n : Int, SeqAt.shaped (.tuple [.str "rungs", .tuple [.int 0, .int n]]) = SeqAt.shaped (.tuple [.str "rungs", .tuple [.int 0, .int 0]]) := fun _ => rfl
    rw [e2]
    decide +kernel
  · exact ⟨_, rfl, rfl⟩
  · exact ⟨_, rfl, rfl⟩
  · exact ⟨_, rfl, rfl⟩
/-- the first loop -/
theorem st_0 {m : Ms} {N : Nd} {a : Addr} {ns : List Int} (h63 : ns.length ≤ 63) (Fd : FnD m 1 "_law_draw" ["cell", "k"] Rdraw) (Fdig : FnD m 2 "_law_digit" ["state", "below"] Rdigit) (Fr : FnD m 4 "_law_right" ["thing"] Rright) (hen : m.mg "enumerate" = none) (hsum : m.mg "sum" = none)
    (hN : ∀ z1 z2 z3 z4 z5, N.nx [some (.v (.ref a)), z1, z2, z3, z4, z5, none, none, none, none, none, none, none] (B3 ns)) : SX (cL m a ns) [some (.v (.ref a)), none, none, none, none, none, none, none, none, none, none, none, none] [] ((defBody s_law).getD 0 (.Pass ⟨0, 0, 0, 0⟩)) N := by
  have hc : (ns.take 4).length ≤ 4 := by simp; omega
  have hcl : (cells ns).length ≤ 5 := by
    unfold cells
    rw [List.length_append, List.length_singleton]
    omega
  refine sx_for (ix_enum (k := 2) (M1 := B3 ns) (m := .lst (intsS (cells ns))) (ss := intsS (cells ns)) ?_ rfl rfl hen) (fun k Γ M => ∃ z1 z2 z3 z4 z5, Γ = [some (.v (.ref a)), z1, z2, z3, z4, z5, none, none, none, none, none, none, none] ∧ M = B3 ns) ⟨_, Fg.refl _, none, none, none, none, none, rfl, rfl⟩ (fun k Γ M _ e => by obtain ⟨_, _, _, _, _, _, rfl⟩ := e; exact ⟨_, rfl, rfl⟩) ?_ ?_
  · refine ex_to (ex_bin (ex_to (s := .p 0) (M2 := [.lst (intsS (ns.take 4))]) (ex_slV rfl (ex_var 0) eo_none (eo_some ex_int)) rfl ?_) (ex_to (s := .p 1) (M2 := [.lst (intsS (ns.take 4)), .lst (intsS [ns.sum])]) (ex_list (ea_cons (ex_callB (cs_sumV rfl) (ea_cons (ex_var 0) ea_nil) hsum rfl) ea_nil) (Nat.le_of_ble_eq_true rfl)) rfl rfl) (os_cat (xs := intsS (ns.take 4)) (ys := intsS [ns.sum]) rfl rfl ?_)) rfl ?_
    · rw [show (4 : Int) = ((4 : Nat) : Int) from rfl, cutS_take]
      rfl
    · rw [List.length_map, List.length_map]
      simp
      omega
    · show _ = [_, _, MO.lst (intsS (cells ns))]
      unfold cells
      rw [ints_app]
      rfl
  · rintro k Γ M hk ⟨z1, z2, z3, z4, z5, rfl, rfl⟩
    have hk5 : k < (cells ns).length := by
      rwa [List.length_map] at hk
    have hk' : k < 5 := by omega
    obtain ⟨cell, ec⟩ : ∃ cell : Int, (intsS (cells ns)).getD k (.d .none) = .d (.int cell) := by
      refine ⟨(cells ns)[k], ?_⟩
      simp [List.getD, List.getElem?_eq_getElem hk5]
    rw [ec]
    clear ec hk hk5
    refine ⟨[some (.v (.ref a)), some (.d (.int (k : Nat))), some (.d (.int cell)), z3, z4, z5, none, none, none, none, none, none, none], B3 ns, gx_tup (show Items (.d (.tuple [.int (k : Nat), .int cell])) _ from rfl) (gxs_cons (gx_name 1) (gxs_cons (gx_name 2) gxs_nil)), ?_⟩
    obtain ⟨s0, es0⟩ : ∃ s, s = st0 cell (k : Nat) := ⟨_, rfl⟩
    have ht0 : 0 ≤ s0.t ∧ s0.t ≤ 5000 := by
      rw [es0]
      show (0 : Int) ≤ 1000 * ((k : Nat) : Int) ∧ 1000 * ((k : Nat) : Int) ≤ 5000
      omega
    refine bx_cons ?_
    apply sx_set 3
    · exact ex_call [] Fd (ea_cons (ex_var 2) (ea_cons (ex_var 1) ea_nil)) ⟨cell, (k : Nat), rfl, by omega, by omega, rfl, rfl, rfl⟩ (proj_sh (ds := [.int cell, .int (k : Nat)]) (r := .p 3) (M := B3 ns) (M2 := B3 ns ++ [stM (st0 cell (k : Nat))]) rfl rfl) rfl
    · rw [← es0]
      have hn := dg_b s0 (b := 100000) (by decide)
      have ht1 := nx_t s0 100000
      refine bx_cons ?_
      apply sx_set 4
      · exact ex_to (M2 := B3 ns ++ [stM (nx s0 100000)]) (ex_call [3] Fdig (M1 := B3 ns ++ [stM s0]) (ea_cons (ex_var 3) (ea_cons ex_int ea_nil)) ⟨s0, 100000, rfl, by decide, by decide, by omega, by omega, rfl, rfl, rfl⟩ (proj_set (ds := [.int 100000]) (k := 3) (m := stM s0) (m' := stM (nx s0 100000)) rfl ⟨trivial, trivial, trivial, trivial⟩ ⟨trivial, trivial, trivial, trivial⟩) rfl) rfl rfl
      · generalize dg s0 100000 = n at hn ⊢
        generalize nx s0 100000 = s1 at ht1 ⊢
        have hr := rep_ok n
        have h50 : 0 ≤ n % 50 ∧ n % 50 < 50 := ⟨Int.emod_nonneg _ (by decide), Int.emod_lt_of_pos _ (by decide)⟩
        refine bx_cons ?_
        apply sx_set 5
        · refine ex_to (s := .p 4) (M2 := B3 ns ++ [stM s1] ++ [.lst ((dItems n).map S.d)]) (ex_list (ea_cons (ex_var 4) (ea_cons (ex_bin ex_int (ex_var 4) os_sub) (ea_cons (ex_bin ex_str (ex_bin (ex_var 4) ex_int (os_mod (by decide))) (os_mulS h50.1 (by omega) (by decide +kernel) hr.1)) (ea_cons (ex_to (ex_tup (ea_cons ex_str (ea_cons (ex_to (ex_tup (ea_cons ex_int (ea_cons (ex_var 4) ea_nil)) (Nat.le_of_ble_eq_true rfl)) rfl rfl) ea_nil)) (Nat.le_of_ble_eq_true rfl)) rfl rfl)
            (ea_cons ex_none (ea_cons (ex_to (ex_tup (ea_cons (ex_bin ex_int ex_int (os_pow ⟨by decide, by decide, by decide⟩)) (ea_cons (ex_to (ex_tup ea_nil (Nat.zero_le _)) rfl rfl) ea_nil)) (Nat.le_of_ble_eq_true rfl)) rfl rfl) (ea_cons (ex_to (ex_bin (ex_to (s := .d (.tuple [.int n])) (ex_tup (ea_cons (ex_var 4) ea_nil) (Nat.le_of_ble_eq_true rfl)) rfl rfl) ex_int (os_repT (ss := [.d (.int n)]) rfl (fun z => by cases z) (by decide) (by decide) (Nat.le_of_ble_eq_true rfl))) rfl rfl) ea_nil))))))) (Nat.le_of_ble_eq_true rfl)) rfl rfl
        · have hd := dg_b s1 (b := 7) (by decide)
          have ht2 := nx_t s1 7
          obtain ⟨x, hx, sx⟩ := items_ok n (dg s1 7) hd.1 hd.2
          have sP : ∀ P : Int, SeqAt.shaped (.int P) = true := fun _ => rfl
          refine bx_one ?_
          apply sx_if (q := false) (M1 := B3 ns ++ [stM (nx s1 7)] ++ [.lst ((dItems n).map S.d)])
          · refine et_w (ew_orF (M1 := B3 ns ++ [stM (nx s1 7)] ++ [.lst ((dItems n).map S.d)]) (et_to (et_not (q := true) (et_val (ex_call [] Fr (ea_cons (ex_ixL (k := 4) (i := dg s1 7) (m := .lst ((dItems n).map S.d)) (M1 := B3 ns ++ [stM s1] ++ [.lst ((dItems n).map S.d)]) (ex_var 5) (ex_to (M2 := B3 ns ++ [stM (nx s1 7)] ++ [.lst ((dItems n).map S.d)]) (ex_call [3] Fdig (M1 := B3 ns ++ [stM s1] ++ [.lst ((dItems n).map S.d)]) (ea_cons (ex_var 3) (ea_cons ex_int ea_nil)) ⟨s1, 7, rfl, by decide, by decide, by omega, by omega, rfl, rfl, rfl⟩
                (proj_set (ds := [.int 7]) (k := 3) (m := stM s1) (m' := stM (nx s1 7)) rfl ⟨trivial, trivial, trivial, trivial⟩ ⟨trivial, trivial, trivial, trivial⟩) rfl) rfl rfl) rfl rfl hx) ea_nil) ⟨x, sx, rfl, rfl, rfl, rfl⟩ (proj_d (ds := [x])) rfl))) rfl rfl) (ew_or1 (et_to (et_not (q := true) (et_val (ex_call [] Fr (ea_cons (ex_bin (ex_bin (ex_bin ex_int ex_int (os_powB ?_)) ex_int (os_powB ?_)) ex_int (os_powB ?_)) ea_nil) ⟨_, sP _, rfl, rfl, rfl, rfl⟩ (proj_d (ds := [_])) rfl))) rfl rfl)))
            · exact ⟨by decide, by decide +kernel⟩
            · exact ⟨by decide, by decide +kernel⟩
            · exact ⟨by decide, by decide +kernel⟩
          · intro q
            cases q
          · intro _
            refine bx_nil (nxt_of (n := 3) (Γ' := [some (.v (.ref a)), none, none, none, none, none, none, none, none, none, none, none, none]) (M' := B3 ns) (Nat.le_of_ble_eq_true rfl) rfl (lo_B3 _ _) ⟨rfl, trivial⟩ ⟨trivial, trivial⟩ ⟨_, _, _, _, _, rfl, rfl⟩)
  · rintro Γ M ⟨z1, z2, z3, z4, z5, rfl, rfl⟩
    exact hN _ _ _ _ _
end K

namespace K
open PySem PySem.Spec PyProof.Rows L2 DL DX
def W4 (cs : Nat → Addr) (ns : List Int) : Sto := [.lst (intsS (ns.take 4)), .lst (intsS [ns.sum]), .lst (intsS (cells ns)), .xd [("value", .d .none)], .xo (cs 8) "no such permutation" (.p 3), .xd [("value", .d .none)], .xo (cs 5) "no such number" (.p 5), .xd [("value", .d .none)], .xo (cs 0) "no such colours" (.p 7), .xd [("value", .d .none)], .xo (cs 21) "nothing so called" (.p 9), .lst [.p 4, .p 6, .p 8, .p 10], .xd [("place", .d .none)], .xo (cs 11) "no such puzzle" (.p 12), .xd [("place", .d .none)], .xo (cs 20) "no such word" (.p 14), .xd [("place", .d .none)], .xo (cs 12) "no such recipe" (.p 16), .xd [("place", .d .none)], .xo (cs 3) "no such ladder" (.p 18), .xd [("place", .d .none)], .xo (cs 7) "no such paper" (.p 20), .xd [("place", .d .none)], .xo (cs 9) "no such pieces" (.p 22), .xd [("place", .d .none)], .xo (cs 2) "no such glue" (.p 24), .xd [("place", .d .none)], .xo (cs 19) "no such web" (.p 26), .xd [("place", .d .none)], .xo (cs 18) "no such text" (.p 28), .lst [.p 13, .p 15, .p 17, .p 19, .p 21, .p 23, .p 25, .p 27, .p 29], .xd [("place", .d .none)], .xo (cs 1) "no such deed" (.p 31), .xd [("place", .d .none)], .xo (cs 15) "no such stages" (.p 33), .xd [("place", .d .none)], .xo (cs 4) "no such macros" (.p 35), .xd [("place", .d .none)], .xo (cs 6) "no such orders" (.p 37), .xd [("place", .d .none)], .xo (cs 14) "no such row" (.p 39), .xd [("place", .d .none)], .xo (cs 17) "no such task" (.p 41), .xd [("place", .d .none)], .xo (cs 13) "no such replay" (.p 43), .xd [("place", .d .none)], .xo (cs 10) "no such prices" (.p 45), .lst [.p 32, .p 34, .p 36, .p 38, .p 40, .p 42, .p 44, .p 46], .lst [.p 13, .p 15, .p 17, .p 19, .p 21, .p 23, .p 25, .p 27, .p 29, .p 32, .p 34, .p 36, .p 38, .p 40, .p 42, .p 44, .p 46, .p 50], .xd [("place", .d .none)], .xo (cs 16) "no such system" (.p 49)]
theorem lo_W4 (cs : Nat → Addr) (ns : List Int) : loMs 51 (W4 cs ns) := by
  unfold W4
  repeat' (first | exact trivial | exact lo_ints _ _ | exact Nat.le_of_ble_eq_true rfl | (refine ⟨?_, ?_⟩))
theorem st_mid {m : Ms} {N : Nd} {a : Addr} {ns : List Int} {cs : Nat → Addr} {z1 z2 z3 z4 z5 : Option S} (FM : KM m cs) (hN : BX (cL m a ns) [some (.v (.ref a)), z1, z2, z3, z4, some (.p 11), some (.p 48), none, none, none, none, none, none] (W4 cs ns) ((defBody s_law).drop 5) N) :
    BX (cL m a ns) [some (.v (.ref a)), z1, z2, z3, z4, z5, none, none, none, none, none, none, none] (B3 ns) ((defBody s_law).drop 1) N := by
  have w0 : XM m "BadColours" (cs 0) "value" "no such colours" "value" true := FM 0 (by decide)
  have w1 : XM m "BadDeed" (cs 1) "place" "no such deed" "place" true := FM 1 (by decide)
  have w2 : XM m "BadGlue" (cs 2) "place" "no such glue" "place" true := FM 2 (by decide)
  have w3 : XM m "BadLadder" (cs 3) "place" "no such ladder" "place" true := FM 3 (by decide)
  have w4 : XM m "BadMacros" (cs 4) "place" "no such macros" "place" true := FM 4 (by decide)
  have w5 : XM m "BadNumber" (cs 5) "value" "no such number" "value" true := FM 5 (by decide)
  have w6 : XM m "BadOrders" (cs 6) "place" "no such orders" "place" true := FM 6 (by decide)
  have w7 : XM m "BadPaper" (cs 7) "place" "no such paper" "place" true := FM 7 (by decide)
  have w8 : XM m "BadPerm" (cs 8) "value" "no such permutation" "value" true := FM 8 (by decide)
  have w9 : XM m "BadPieces" (cs 9) "place" "no such pieces" "place" true := FM 9 (by decide)
  have w10 : XM m "BadPrices" (cs 10) "place" "no such prices" "place" true := FM 10 (by decide)
  have w11 : XM m "BadPuzzle" (cs 11) "place" "no such puzzle" "place" true := FM 11 (by decide)
  have w12 : XM m "BadRecipe" (cs 12) "place" "no such recipe" "place" true := FM 12 (by decide)
  have w13 : XM m "BadReplay" (cs 13) "place" "no such replay" "place" true := FM 13 (by decide)
  have w14 : XM m "BadRow" (cs 14) "place" "no such row" "place" true := FM 14 (by decide)
  have w15 : XM m "BadStages" (cs 15) "place" "no such stages" "place" true := FM 15 (by decide)
  have w16 : XM m "BadSystem" (cs 16) "place" "no such system" "place" true := FM 16 (by decide)
  have w17 : XM m "BadTask" (cs 17) "place" "no such task" "place" true := FM 17 (by decide)
  have w18 : XM m "BadText" (cs 18) "place" "no such text" "place" true := FM 18 (by decide)
  have w19 : XM m "BadWeb" (cs 19) "place" "no such web" "place" true := FM 19 (by decide)
  have w20 : XM m "BadWord" (cs 20) "place" "no such word" "place" true := FM 20 (by decide)
  have w21 : XM m "NoSuch" (cs 21) "value" "nothing so called" "value" true := FM 21 (by decide)
  refine bx_cons ?_
  apply sx_set 5
  · exact ex_to (s := .p 11) (M2 := [.lst (intsS (ns.take 4)), .lst (intsS [ns.sum]), .lst (intsS (cells ns)), .xd [("value", .d .none)], .xo (cs 8) "no such permutation" (.p 3), .xd [("value", .d .none)], .xo (cs 5) "no such number" (.p 5), .xd [("value", .d .none)], .xo (cs 0) "no such colours" (.p 7), .xd [("value", .d .none)], .xo (cs 21) "nothing so called" (.p 9), .lst [.p 4, .p 6, .p 8, .p 10]]) (ex_list (ea_cons (ex_to (s := .p 4) (M2 := [.lst (intsS (ns.take 4)), .lst (intsS [ns.sum]), .lst (intsS (cells ns)), .xd [("value", .d .none)], .xo (cs 8) "no such permutation" (.p 3)]) (ex_mkx0 w8) rfl rfl) (ea_cons (ex_to (s := .p 6) (M2 := [.lst (intsS (ns.take 4)), .lst (intsS [ns.sum]), .lst (intsS (cells ns)), .xd [("value", .d .none)], .xo (cs 8) "no such permutation" (.p 3), .xd [("value", .d .none)], .xo (cs 5) "no such number" (.p 5)]) (ex_mkx0 w5) rfl rfl) (ea_cons (ex_to (s := .p 8) (M2 := [.lst (intsS (ns.take 4)), .lst (intsS [ns.sum]), .lst (intsS (cells ns)), .xd [("value", .d .none)], .xo (cs 8) "no such permutation" (.p 3), .xd [("value", .d .none)], .xo (cs 5) "no such number" (.p 5), .xd [("value", .d .none)], .xo (cs 0) "no such colours" (.p 7)]) (ex_mkx0 w0) rfl rfl) (ea_cons (ex_to (s := .p 10) (M2 := [.lst (intsS (ns.take 4)), .lst (intsS [ns.sum]), .lst (intsS (cells ns)), .xd [("value", .d .none)], .xo (cs 8) "no such permutation" (.p 3), .xd [("value", .d .none)], .xo (cs 5) "no such number" (.p 5), .xd [("value", .d .none)], .xo (cs 0) "no such colours" (.p 7), .xd [("value", .d .none)], .xo (cs 21) "nothing so called" (.p 9)]) (ex_mkx0 w21) rfl rfl) (ea_nil))))) (Nat.le_of_ble_eq_true rfl)) rfl rfl
  · refine bx_cons ?_
    apply sx_set 6
    · exact ex_to (s := .p 30) (M2 := [.lst (intsS (ns.take 4)), .lst (intsS [ns.sum]), .lst (intsS (cells ns)), .xd [("value", .d .none)], .xo (cs 8) "no such permutation" (.p 3), .xd [("value", .d .none)], .xo (cs 5) "no such number" (.p 5), .xd [("value", .d .none)], .xo (cs 0) "no such colours" (.p 7), .xd [("value", .d .none)], .xo (cs 21) "nothing so called" (.p 9), .lst [.p 4, .p 6, .p 8, .p 10], .xd [("place", .d .none)], .xo (cs 11) "no such puzzle" (.p 12), .xd [("place", .d .none)], .xo (cs 20) "no such word" (.p 14), .xd [("place", .d .none)], .xo (cs 12) "no such recipe" (.p 16), .xd [("place", .d .none)], .xo (cs 3) "no such ladder" (.p 18), .xd [("place", .d .none)], .xo (cs 7) "no such paper" (.p 20), .xd [("place", .d .none)], .xo (cs 9) "no such pieces" (.p 22), .xd [("place", .d .none)], .xo (cs 2) "no such glue" (.p 24), .xd [("place", .d .none)], .xo (cs 19) "no such web" (.p 26), .xd [("place", .d .none)], .xo (cs 18) "no such text" (.p 28), .lst [.p 13, .p 15, .p 17, .p 19, .p 21, .p 23, .p 25, .p 27, .p 29]]) (ex_list (ea_cons (ex_to (s := .p 13) (M2 := [.lst (intsS (ns.take 4)), .lst (intsS [ns.sum]), .lst (intsS (cells ns)), .xd [("value", .d .none)], .xo (cs 8) "no such permutation" (.p 3), .xd [("value", .d .none)], .xo (cs 5) "no such number" (.p 5), .xd [("value", .d .none)], .xo (cs 0) "no such colours" (.p 7), .xd [("value", .d .none)], .xo (cs 21) "nothing so called" (.p 9), .lst [.p 4, .p 6, .p 8, .p 10], .xd [("place", .d .none)], .xo (cs 11) "no such puzzle" (.p 12)]) (ex_mkx0 w11) rfl rfl) (ea_cons (ex_to (s := .p 15) (M2 := [.lst (intsS (ns.take 4)), .lst (intsS [ns.sum]), .lst (intsS (cells ns)), .xd [("value", .d .none)], .xo (cs 8) "no such permutation" (.p 3), .xd [("value", .d .none)], .xo (cs 5) "no such number" (.p 5), .xd [("value", .d .none)], .xo (cs 0) "no such colours" (.p 7), .xd [("value", .d .none)], .xo (cs 21) "nothing so called" (.p 9), .lst [.p 4, .p 6, .p 8, .p 10], .xd [("place", .d .none)], .xo (cs 11) "no such puzzle" (.p 12), .xd [("place", .d .none)], .xo (cs 20) "no such word" (.p 14)]) (ex_mkx0 w20) rfl rfl) (ea_cons (ex_to (s := .p 17) (M2 := [.lst (intsS (ns.take 4)), .lst (intsS [ns.sum]), .lst (intsS (cells ns)), .xd [("value", .d .none)], .xo (cs 8) "no such permutation" (.p 3), .xd [("value", .d .none)], .xo (cs 5) "no such number" (.p 5), .xd [("value", .d .none)], .xo (cs 0) "no such colours" (.p 7), .xd [("value", .d .none)], .xo (cs 21) "nothing so called" (.p 9), .lst [.p 4, .p 6, .p 8, .p 10], .xd [("place", .d .none)], .xo (cs 11) "no such puzzle" (.p 12), .xd [("place", .d .none)], .xo (cs 20) "no such word" (.p 14), .xd [("place", .d .none)], .xo (cs 12) "no such recipe" (.p 16)]) (ex_mkx0 w12) rfl rfl) (ea_cons (ex_to (s := .p 19) (M2 := [.lst (intsS (ns.take 4)), .lst (intsS [ns.sum]), .lst (intsS (cells ns)), .xd [("value", .d .none)], .xo (cs 8) "no such permutation" (.p 3), .xd [("value", .d .none)], .xo (cs 5) "no such number" (.p 5), .xd [("value", .d .none)], .xo (cs 0) "no such colours" (.p 7), .xd [("value", .d .none)], .xo (cs 21) "nothing so called" (.p 9), .lst [.p 4, .p 6, .p 8, .p 10], .xd [("place", .d .none)], .xo (cs 11) "no such puzzle" (.p 12), .xd [("place", .d .none)], .xo (cs 20) "no such word" (.p 14), .xd [("place", .d .none)], .xo (cs 12) "no such recipe" (.p 16), .xd [("place", .d .none)], .xo (cs 3) "no such ladder" (.p 18)]) (ex_mkx0 w3) rfl rfl) (ea_cons (ex_to (s := .p 21) (M2 := [.lst (intsS (ns.take 4)), .lst (intsS [ns.sum]), .lst (intsS (cells ns)), .xd [("value", .d .none)], .xo (cs 8) "no such permutation" (.p 3), .xd [("value", .d .none)], .xo (cs 5) "no such number" (.p 5), .xd [("value", .d .none)], .xo (cs 0) "no such colours" (.p 7), .xd [("value", .d .none)], .xo (cs 21) "nothing so called" (.p 9), .lst [.p 4, .p 6, .p 8, .p 10], .xd [("place", .d .none)], .xo (cs 11) "no such puzzle" (.p 12), .xd [("place", .d .none)], .xo (cs 20) "no such word" (.p 14), .xd [("place", .d .none)], .xo (cs 12) "no such recipe" (.p 16), .xd [("place", .d .none)], .xo (cs 3) "no such ladder" (.p 18), .xd [("place", .d .none)], .xo (cs 7) "no such paper" (.p 20)]) (ex_mkx0 w7) rfl rfl) (ea_cons (ex_to (s := .p 23) (M2 := [.lst (intsS (ns.take 4)), .lst (intsS [ns.sum]), .lst (intsS (cells ns)), .xd [("value", .d .none)], .xo (cs 8) "no such permutation" (.p 3), .xd [("value", .d .none)], .xo (cs 5) "no such number" (.p 5), .xd [("value", .d .none)], .xo (cs 0) "no such colours" (.p 7), .xd [("value", .d .none)], .xo (cs 21) "nothing so called" (.p 9), .lst [.p 4, .p 6, .p 8, .p 10], .xd [("place", .d .none)], .xo (cs 11) "no such puzzle" (.p 12), .xd [("place", .d .none)], .xo (cs 20) "no such word" (.p 14), .xd [("place", .d .none)], .xo (cs 12) "no such recipe" (.p 16), .xd [("place", .d .none)], .xo (cs 3) "no such ladder" (.p 18), .xd [("place", .d .none)], .xo (cs 7) "no such paper" (.p 20), .xd [("place", .d .none)], .xo (cs 9) "no such pieces" (.p 22)]) (ex_mkx0 w9) rfl rfl) (ea_cons (ex_to (s := .p 25) (M2 := [.lst (intsS (ns.take 4)), .lst (intsS [ns.sum]), .lst (intsS (cells ns)), .xd [("value", .d .none)], .xo (cs 8) "no such permutation" (.p 3), .xd [("value", .d .none)], .xo (cs 5) "no such number" (.p 5), .xd [("value", .d .none)], .xo (cs 0) "no such colours" (.p 7), .xd [("value", .d .none)], .xo (cs 21) "nothing so called" (.p 9), .lst [.p 4, .p 6, .p 8, .p 10], .xd [("place", .d .none)], .xo (cs 11) "no such puzzle" (.p 12), .xd [("place", .d .none)], .xo (cs 20) "no such word" (.p 14), .xd [("place", .d .none)], .xo (cs 12) "no such recipe" (.p 16), .xd [("place", .d .none)], .xo (cs 3) "no such ladder" (.p 18), .xd [("place", .d .none)], .xo (cs 7) "no such paper" (.p 20), .xd [("place", .d .none)], .xo (cs 9) "no such pieces" (.p 22), .xd [("place", .d .none)], .xo (cs 2) "no such glue" (.p 24)]) (ex_mkx0 w2) rfl rfl) (ea_cons (ex_to (s := .p 27) (M2 := [.lst (intsS (ns.take 4)), .lst (intsS [ns.sum]), .lst (intsS (cells ns)), .xd [("value", .d .none)], .xo (cs 8) "no such permutation" (.p 3), .xd [("value", .d .none)], .xo (cs 5) "no such number" (.p 5), .xd [("value", .d .none)], .xo (cs 0) "no such colours" (.p 7), .xd [("value", .d .none)], .xo (cs 21) "nothing so called" (.p 9), .lst [.p 4, .p 6, .p 8, .p 10], .xd [("place", .d .none)], .xo (cs 11) "no such puzzle" (.p 12), .xd [("place", .d .none)], .xo (cs 20) "no such word" (.p 14), .xd [("place", .d .none)], .xo (cs 12) "no such recipe" (.p 16), .xd [("place", .d .none)], .xo (cs 3) "no such ladder" (.p 18), .xd [("place", .d .none)], .xo (cs 7) "no such paper" (.p 20), .xd [("place", .d .none)], .xo (cs 9) "no such pieces" (.p 22), .xd [("place", .d .none)], .xo (cs 2) "no such glue" (.p 24), .xd [("place", .d .none)], .xo (cs 19) "no such web" (.p 26)]) (ex_mkx0 w19) rfl rfl) (ea_cons (ex_to (s := .p 29) (M2 := [.lst (intsS (ns.take 4)), .lst (intsS [ns.sum]), .lst (intsS (cells ns)), .xd [("value", .d .none)], .xo (cs 8) "no such permutation" (.p 3), .xd [("value", .d .none)], .xo (cs 5) "no such number" (.p 5), .xd [("value", .d .none)], .xo (cs 0) "no such colours" (.p 7), .xd [("value", .d .none)], .xo (cs 21) "nothing so called" (.p 9), .lst [.p 4, .p 6, .p 8, .p 10], .xd [("place", .d .none)], .xo (cs 11) "no such puzzle" (.p 12), .xd [("place", .d .none)], .xo (cs 20) "no such word" (.p 14), .xd [("place", .d .none)], .xo (cs 12) "no such recipe" (.p 16), .xd [("place", .d .none)], .xo (cs 3) "no such ladder" (.p 18), .xd [("place", .d .none)], .xo (cs 7) "no such paper" (.p 20), .xd [("place", .d .none)], .xo (cs 9) "no such pieces" (.p 22), .xd [("place", .d .none)], .xo (cs 2) "no such glue" (.p 24), .xd [("place", .d .none)], .xo (cs 19) "no such web" (.p 26), .xd [("place", .d .none)], .xo (cs 18) "no such text" (.p 28)]) (ex_mkx0 w18) rfl rfl) (ea_nil)))))))))) (Nat.le_of_ble_eq_true rfl)) rfl rfl
    · refine bx_cons ?_
      apply sx_set 6
      · exact ex_bin (M2 := [.lst (intsS (ns.take 4)), .lst (intsS [ns.sum]), .lst (intsS (cells ns)), .xd [("value", .d .none)], .xo (cs 8) "no such permutation" (.p 3), .xd [("value", .d .none)], .xo (cs 5) "no such number" (.p 5), .xd [("value", .d .none)], .xo (cs 0) "no such colours" (.p 7), .xd [("value", .d .none)], .xo (cs 21) "nothing so called" (.p 9), .lst [.p 4, .p 6, .p 8, .p 10], .xd [("place", .d .none)], .xo (cs 11) "no such puzzle" (.p 12), .xd [("place", .d .none)], .xo (cs 20) "no such word" (.p 14), .xd [("place", .d .none)], .xo (cs 12) "no such recipe" (.p 16), .xd [("place", .d .none)], .xo (cs 3) "no such ladder" (.p 18), .xd [("place", .d .none)], .xo (cs 7) "no such paper" (.p 20), .xd [("place", .d .none)], .xo (cs 9) "no such pieces" (.p 22), .xd [("place", .d .none)], .xo (cs 2) "no such glue" (.p 24), .xd [("place", .d .none)], .xo (cs 19) "no such web" (.p 26), .xd [("place", .d .none)], .xo (cs 18) "no such text" (.p 28), .lst [.p 13, .p 15, .p 17, .p 19, .p 21, .p 23, .p 25, .p 27, .p 29], .xd [("place", .d .none)], .xo (cs 1) "no such deed" (.p 31), .xd [("place", .d .none)], .xo (cs 15) "no such stages" (.p 33), .xd [("place", .d .none)], .xo (cs 4) "no such macros" (.p 35), .xd [("place", .d .none)], .xo (cs 6) "no such orders" (.p 37), .xd [("place", .d .none)], .xo (cs 14) "no such row" (.p 39), .xd [("place", .d .none)], .xo (cs 17) "no such task" (.p 41), .xd [("place", .d .none)], .xo (cs 13) "no such replay" (.p 43), .xd [("place", .d .none)], .xo (cs 10) "no such prices" (.p 45), .lst [.p 32, .p 34, .p 36, .p 38, .p 40, .p 42, .p 44, .p 46]]) (ex_var 6) (ex_to (s := .p 47) (M2 := [.lst (intsS (ns.take 4)), .lst (intsS [ns.sum]), .lst (intsS (cells ns)), .xd [("value", .d .none)], .xo (cs 8) "no such permutation" (.p 3), .xd [("value", .d .none)], .xo (cs 5) "no such number" (.p 5), .xd [("value", .d .none)], .xo (cs 0) "no such colours" (.p 7), .xd [("value", .d .none)], .xo (cs 21) "nothing so called" (.p 9), .lst [.p 4, .p 6, .p 8, .p 10], .xd [("place", .d .none)], .xo (cs 11) "no such puzzle" (.p 12), .xd [("place", .d .none)], .xo (cs 20) "no such word" (.p 14), .xd [("place", .d .none)], .xo (cs 12) "no such recipe" (.p 16), .xd [("place", .d .none)], .xo (cs 3) "no such ladder" (.p 18), .xd [("place", .d .none)], .xo (cs 7) "no such paper" (.p 20), .xd [("place", .d .none)], .xo (cs 9) "no such pieces" (.p 22), .xd [("place", .d .none)], .xo (cs 2) "no such glue" (.p 24), .xd [("place", .d .none)], .xo (cs 19) "no such web" (.p 26), .xd [("place", .d .none)], .xo (cs 18) "no such text" (.p 28), .lst [.p 13, .p 15, .p 17, .p 19, .p 21, .p 23, .p 25, .p 27, .p 29], .xd [("place", .d .none)], .xo (cs 1) "no such deed" (.p 31), .xd [("place", .d .none)], .xo (cs 15) "no such stages" (.p 33), .xd [("place", .d .none)], .xo (cs 4) "no such macros" (.p 35), .xd [("place", .d .none)], .xo (cs 6) "no such orders" (.p 37), .xd [("place", .d .none)], .xo (cs 14) "no such row" (.p 39), .xd [("place", .d .none)], .xo (cs 17) "no such task" (.p 41), .xd [("place", .d .none)], .xo (cs 13) "no such replay" (.p 43), .xd [("place", .d .none)], .xo (cs 10) "no such prices" (.p 45), .lst [.p 32, .p 34, .p 36, .p 38, .p 40, .p 42, .p 44, .p 46]]) (ex_list (ea_cons (ex_to (s := .p 32) (M2 := [.lst (intsS (ns.take 4)), .lst (intsS [ns.sum]), .lst (intsS (cells ns)), .xd [("value", .d .none)], .xo (cs 8) "no such permutation" (.p 3), .xd [("value", .d .none)], .xo (cs 5) "no such number" (.p 5), .xd [("value", .d .none)], .xo (cs 0) "no such colours" (.p 7), .xd [("value", .d .none)], .xo (cs 21) "nothing so called" (.p 9), .lst [.p 4, .p 6, .p 8, .p 10], .xd [("place", .d .none)], .xo (cs 11) "no such puzzle" (.p 12), .xd [("place", .d .none)], .xo (cs 20) "no such word" (.p 14), .xd [("place", .d .none)], .xo (cs 12) "no such recipe" (.p 16), .xd [("place", .d .none)], .xo (cs 3) "no such ladder" (.p 18), .xd [("place", .d .none)], .xo (cs 7) "no such paper" (.p 20), .xd [("place", .d .none)], .xo (cs 9) "no such pieces" (.p 22), .xd [("place", .d .none)], .xo (cs 2) "no such glue" (.p 24), .xd [("place", .d .none)], .xo (cs 19) "no such web" (.p 26), .xd [("place", .d .none)], .xo (cs 18) "no such text" (.p 28), .lst [.p 13, .p 15, .p 17, .p 19, .p 21, .p 23, .p 25, .p 27, .p 29], .xd [("place", .d .none)], .xo (cs 1) "no such deed" (.p 31)]) (ex_mkx0 w1) rfl rfl) (ea_cons (ex_to (s := .p 34) (M2 := [.lst (intsS (ns.take 4)), .lst (intsS [ns.sum]), .lst (intsS (cells ns)), .xd [("value", .d .none)], .xo (cs 8) "no such permutation" (.p 3), .xd [("value", .d .none)], .xo (cs 5) "no such number" (.p 5), .xd [("value", .d .none)], .xo (cs 0) "no such colours" (.p 7), .xd [("value", .d .none)], .xo (cs 21) "nothing so called" (.p 9), .lst [.p 4, .p 6, .p 8, .p 10], .xd [("place", .d .none)], .xo (cs 11) "no such puzzle" (.p 12), .xd [("place", .d .none)], .xo (cs 20) "no such word" (.p 14), .xd [("place", .d .none)], .xo (cs 12) "no such recipe" (.p 16), .xd [("place", .d .none)], .xo (cs 3) "no such ladder" (.p 18), .xd [("place", .d .none)], .xo (cs 7) "no such paper" (.p 20), .xd [("place", .d .none)], .xo (cs 9) "no such pieces" (.p 22), .xd [("place", .d .none)], .xo (cs 2) "no such glue" (.p 24), .xd [("place", .d .none)], .xo (cs 19) "no such web" (.p 26), .xd [("place", .d .none)], .xo (cs 18) "no such text" (.p 28), .lst [.p 13, .p 15, .p 17, .p 19, .p 21, .p 23, .p 25, .p 27, .p 29], .xd [("place", .d .none)], .xo (cs 1) "no such deed" (.p 31), .xd [("place", .d .none)], .xo (cs 15) "no such stages" (.p 33)]) (ex_mkx0 w15) rfl rfl) (ea_cons (ex_to (s := .p 36) (M2 := [.lst (intsS (ns.take 4)), .lst (intsS [ns.sum]), .lst (intsS (cells ns)), .xd [("value", .d .none)], .xo (cs 8) "no such permutation" (.p 3), .xd [("value", .d .none)], .xo (cs 5) "no such number" (.p 5), .xd [("value", .d .none)], .xo (cs 0) "no such colours" (.p 7), .xd [("value", .d .none)], .xo (cs 21) "nothing so called" (.p 9), .lst [.p 4, .p 6, .p 8, .p 10], .xd [("place", .d .none)], .xo (cs 11) "no such puzzle" (.p 12), .xd [("place", .d .none)], .xo (cs 20) "no such word" (.p 14), .xd [("place", .d .none)], .xo (cs 12) "no such recipe" (.p 16), .xd [("place", .d .none)], .xo (cs 3) "no such ladder" (.p 18), .xd [("place", .d .none)], .xo (cs 7) "no such paper" (.p 20), .xd [("place", .d .none)], .xo (cs 9) "no such pieces" (.p 22), .xd [("place", .d .none)], .xo (cs 2) "no such glue" (.p 24), .xd [("place", .d .none)], .xo (cs 19) "no such web" (.p 26), .xd [("place", .d .none)], .xo (cs 18) "no such text" (.p 28), .lst [.p 13, .p 15, .p 17, .p 19, .p 21, .p 23, .p 25, .p 27, .p 29], .xd [("place", .d .none)], .xo (cs 1) "no such deed" (.p 31), .xd [("place", .d .none)], .xo (cs 15) "no such stages" (.p 33), .xd [("place", .d .none)], .xo (cs 4) "no such macros" (.p 35)]) (ex_mkx0 w4) rfl rfl) (ea_cons (ex_to (s := .p 38) (M2 := [.lst (intsS (ns.take 4)), .lst (intsS [ns.sum]), .lst (intsS (cells ns)), .xd [("value", .d .none)], .xo (cs 8) "no such permutation" (.p 3), .xd [("value", .d .none)], .xo (cs 5) "no such number" (.p 5), .xd [("value", .d .none)], .xo (cs 0) "no such colours" (.p 7), .xd [("value", .d .none)], .xo (cs 21) "nothing so called" (.p 9), .lst [.p 4, .p 6, .p 8, .p 10], .xd [("place", .d .none)], .xo (cs 11) "no such puzzle" (.p 12), .xd [("place", .d .none)], .xo (cs 20) "no such word" (.p 14), .xd [("place", .d .none)], .xo (cs 12) "no such recipe" (.p 16), .xd [("place", .d .none)], .xo (cs 3) "no such ladder" (.p 18), .xd [("place", .d .none)], .xo (cs 7) "no such paper" (.p 20), .xd [("place", .d .none)], .xo (cs 9) "no such pieces" (.p 22), .xd [("place", .d .none)], .xo (cs 2) "no such glue" (.p 24), .xd [("place", .d .none)], .xo (cs 19) "no such web" (.p 26), .xd [("place", .d .none)], .xo (cs 18) "no such text" (.p 28), .lst [.p 13, .p 15, .p 17, .p 19, .p 21, .p 23, .p 25, .p 27, .p 29], .xd [("place", .d .none)], .xo (cs 1) "no such deed" (.p 31), .xd [("place", .d .none)], .xo (cs 15) "no such stages" (.p 33), .xd [("place", .d .none)], .xo (cs 4) "no such macros" (.p 35), .xd [("place", .d .none)], .xo (cs 6) "no such orders" (.p 37)]) (ex_mkx0 w6) rfl rfl) (ea_cons (ex_to (s := .p 40) (M2 := [.lst (intsS (ns.take 4)), .lst (intsS [ns.sum]), .lst (intsS (cells ns)), .xd [("value", .d .none)], .xo (cs 8) "no such permutation" (.p 3), .xd [("value", .d .none)], .xo (cs 5) "no such number" (.p 5), .xd [("value", .d .none)], .xo (cs 0) "no such colours" (.p 7), .xd [("value", .d .none)], .xo (cs 21) "nothing so called" (.p 9), .lst [.p 4, .p 6, .p 8, .p 10], .xd [("place", .d .none)], .xo (cs 11) "no such puzzle" (.p 12), .xd [("place", .d .none)], .xo (cs 20) "no such word" (.p 14), .xd [("place", .d .none)], .xo (cs 12) "no such recipe" (.p 16), .xd [("place", .d .none)], .xo (cs 3) "no such ladder" (.p 18), .xd [("place", .d .none)], .xo (cs 7) "no such paper" (.p 20), .xd [("place", .d .none)], .xo (cs 9) "no such pieces" (.p 22), .xd [("place", .d .none)], .xo (cs 2) "no such glue" (.p 24), .xd [("place", .d .none)], .xo (cs 19) "no such web" (.p 26), .xd [("place", .d .none)], .xo (cs 18) "no such text" (.p 28), .lst [.p 13, .p 15, .p 17, .p 19, .p 21, .p 23, .p 25, .p 27, .p 29], .xd [("place", .d .none)], .xo (cs 1) "no such deed" (.p 31), .xd [("place", .d .none)], .xo (cs 15) "no such stages" (.p 33), .xd [("place", .d .none)], .xo (cs 4) "no such macros" (.p 35), .xd [("place", .d .none)], .xo (cs 6) "no such orders" (.p 37), .xd [("place", .d .none)], .xo (cs 14) "no such row" (.p 39)]) (ex_mkx0 w14) rfl rfl) (ea_cons (ex_to (s := .p 42) (M2 := [.lst (intsS (ns.take 4)), .lst (intsS [ns.sum]), .lst (intsS (cells ns)), .xd [("value", .d .none)], .xo (cs 8) "no such permutation" (.p 3), .xd [("value", .d .none)], .xo (cs 5) "no such number" (.p 5), .xd [("value", .d .none)], .xo (cs 0) "no such colours" (.p 7), .xd [("value", .d .none)], .xo (cs 21) "nothing so called" (.p 9), .lst [.p 4, .p 6, .p 8, .p 10], .xd [("place", .d .none)], .xo (cs 11) "no such puzzle" (.p 12), .xd [("place", .d .none)], .xo (cs 20) "no such word" (.p 14), .xd [("place", .d .none)], .xo (cs 12) "no such recipe" (.p 16), .xd [("place", .d .none)], .xo (cs 3) "no such ladder" (.p 18), .xd [("place", .d .none)], .xo (cs 7) "no such paper" (.p 20), .xd [("place", .d .none)], .xo (cs 9) "no such pieces" (.p 22), .xd [("place", .d .none)], .xo (cs 2) "no such glue" (.p 24), .xd [("place", .d .none)], .xo (cs 19) "no such web" (.p 26), .xd [("place", .d .none)], .xo (cs 18) "no such text" (.p 28), .lst [.p 13, .p 15, .p 17, .p 19, .p 21, .p 23, .p 25, .p 27, .p 29], .xd [("place", .d .none)], .xo (cs 1) "no such deed" (.p 31), .xd [("place", .d .none)], .xo (cs 15) "no such stages" (.p 33), .xd [("place", .d .none)], .xo (cs 4) "no such macros" (.p 35), .xd [("place", .d .none)], .xo (cs 6) "no such orders" (.p 37), .xd [("place", .d .none)], .xo (cs 14) "no such row" (.p 39), .xd [("place", .d .none)], .xo (cs 17) "no such task" (.p 41)]) (ex_mkx0 w17) rfl rfl) (ea_cons (ex_to (s := .p 44) (M2 := [.lst (intsS (ns.take 4)), .lst (intsS [ns.sum]), .lst (intsS (cells ns)), .xd [("value", .d .none)], .xo (cs 8) "no such permutation" (.p 3), .xd [("value", .d .none)], .xo (cs 5) "no such number" (.p 5), .xd [("value", .d .none)], .xo (cs 0) "no such colours" (.p 7), .xd [("value", .d .none)], .xo (cs 21) "nothing so called" (.p 9), .lst [.p 4, .p 6, .p 8, .p 10], .xd [("place", .d .none)], .xo (cs 11) "no such puzzle" (.p 12), .xd [("place", .d .none)], .xo (cs 20) "no such word" (.p 14), .xd [("place", .d .none)], .xo (cs 12) "no such recipe" (.p 16), .xd [("place", .d .none)], .xo (cs 3) "no such ladder" (.p 18), .xd [("place", .d .none)], .xo (cs 7) "no such paper" (.p 20), .xd [("place", .d .none)], .xo (cs 9) "no such pieces" (.p 22), .xd [("place", .d .none)], .xo (cs 2) "no such glue" (.p 24), .xd [("place", .d .none)], .xo (cs 19) "no such web" (.p 26), .xd [("place", .d .none)], .xo (cs 18) "no such text" (.p 28), .lst [.p 13, .p 15, .p 17, .p 19, .p 21, .p 23, .p 25, .p 27, .p 29], .xd [("place", .d .none)], .xo (cs 1) "no such deed" (.p 31), .xd [("place", .d .none)], .xo (cs 15) "no such stages" (.p 33), .xd [("place", .d .none)], .xo (cs 4) "no such macros" (.p 35), .xd [("place", .d .none)], .xo (cs 6) "no such orders" (.p 37), .xd [("place", .d .none)], .xo (cs 14) "no such row" (.p 39), .xd [("place", .d .none)], .xo (cs 17) "no such task" (.p 41), .xd [("place", .d .none)], .xo (cs 13) "no such replay" (.p 43)]) (ex_mkx0 w13) rfl rfl) (ea_cons (ex_to (s := .p 46) (M2 := [.lst (intsS (ns.take 4)), .lst (intsS [ns.sum]), .lst (intsS (cells ns)), .xd [("value", .d .none)], .xo (cs 8) "no such permutation" (.p 3), .xd [("value", .d .none)], .xo (cs 5) "no such number" (.p 5), .xd [("value", .d .none)], .xo (cs 0) "no such colours" (.p 7), .xd [("value", .d .none)], .xo (cs 21) "nothing so called" (.p 9), .lst [.p 4, .p 6, .p 8, .p 10], .xd [("place", .d .none)], .xo (cs 11) "no such puzzle" (.p 12), .xd [("place", .d .none)], .xo (cs 20) "no such word" (.p 14), .xd [("place", .d .none)], .xo (cs 12) "no such recipe" (.p 16), .xd [("place", .d .none)], .xo (cs 3) "no such ladder" (.p 18), .xd [("place", .d .none)], .xo (cs 7) "no such paper" (.p 20), .xd [("place", .d .none)], .xo (cs 9) "no such pieces" (.p 22), .xd [("place", .d .none)], .xo (cs 2) "no such glue" (.p 24), .xd [("place", .d .none)], .xo (cs 19) "no such web" (.p 26), .xd [("place", .d .none)], .xo (cs 18) "no such text" (.p 28), .lst [.p 13, .p 15, .p 17, .p 19, .p 21, .p 23, .p 25, .p 27, .p 29], .xd [("place", .d .none)], .xo (cs 1) "no such deed" (.p 31), .xd [("place", .d .none)], .xo (cs 15) "no such stages" (.p 33), .xd [("place", .d .none)], .xo (cs 4) "no such macros" (.p 35), .xd [("place", .d .none)], .xo (cs 6) "no such orders" (.p 37), .xd [("place", .d .none)], .xo (cs 14) "no such row" (.p 39), .xd [("place", .d .none)], .xo (cs 17) "no such task" (.p 41), .xd [("place", .d .none)], .xo (cs 13) "no such replay" (.p 43), .xd [("place", .d .none)], .xo (cs 10) "no such prices" (.p 45)]) (ex_mkx0 w10) rfl rfl) (ea_nil))))))))) (Nat.le_of_ble_eq_true rfl)) rfl rfl) (OS.to (os_cat (xs := [.p 13, .p 15, .p 17, .p 19, .p 21, .p 23, .p 25, .p 27, .p 29]) (ys := [.p 32, .p 34, .p 36, .p 38, .p 40, .p 42, .p 44, .p 46]) rfl rfl (Nat.le_of_ble_eq_true rfl)) (r' := .p 48) (M' := [.lst (intsS (ns.take 4)), .lst (intsS [ns.sum]), .lst (intsS (cells ns)), .xd [("value", .d .none)], .xo (cs 8) "no such permutation" (.p 3), .xd [("value", .d .none)], .xo (cs 5) "no such number" (.p 5), .xd [("value", .d .none)], .xo (cs 0) "no such colours" (.p 7), .xd [("value", .d .none)], .xo (cs 21) "nothing so called" (.p 9), .lst [.p 4, .p 6, .p 8, .p 10], .xd [("place", .d .none)], .xo (cs 11) "no such puzzle" (.p 12), .xd [("place", .d .none)], .xo (cs 20) "no such word" (.p 14), .xd [("place", .d .none)], .xo (cs 12) "no such recipe" (.p 16), .xd [("place", .d .none)], .xo (cs 3) "no such ladder" (.p 18), .xd [("place", .d .none)], .xo (cs 7) "no such paper" (.p 20), .xd [("place", .d .none)], .xo (cs 9) "no such pieces" (.p 22), .xd [("place", .d .none)], .xo (cs 2) "no such glue" (.p 24), .xd [("place", .d .none)], .xo (cs 19) "no such web" (.p 26), .xd [("place", .d .none)], .xo (cs 18) "no such text" (.p 28), .lst [.p 13, .p 15, .p 17, .p 19, .p 21, .p 23, .p 25, .p 27, .p 29], .xd [("place", .d .none)], .xo (cs 1) "no such deed" (.p 31), .xd [("place", .d .none)], .xo (cs 15) "no such stages" (.p 33), .xd [("place", .d .none)], .xo (cs 4) "no such macros" (.p 35), .xd [("place", .d .none)], .xo (cs 6) "no such orders" (.p 37), .xd [("place", .d .none)], .xo (cs 14) "no such row" (.p 39), .xd [("place", .d .none)], .xo (cs 17) "no such task" (.p 41), .xd [("place", .d .none)], .xo (cs 13) "no such replay" (.p 43), .xd [("place", .d .none)], .xo (cs 10) "no such prices" (.p 45), .lst [.p 32, .p 34, .p 36, .p 38, .p 40, .p 42, .p 44, .p 46], .lst [.p 13, .p 15, .p 17, .p 19, .p 21, .p 23, .p 25, .p 27, .p 29, .p 32, .p 34, .p 36, .p 38, .p 40, .p 42, .p 44, .p 46]]) rfl rfl)
      · refine bx_cons ?_
        apply sx_expr
        · exact ex_to (s := .d .none) (M2 := W4 cs ns) (ex_append (xs := [.p 13, .p 15, .p 17, .p 19, .p 21, .p 23, .p 25, .p 27, .p 29, .p 32, .p 34, .p 36, .p 38, .p 40, .p 42, .p 44, .p 46]) (ys := [.p 13, .p 15, .p 17, .p 19, .p 21, .p 23, .p 25, .p 27, .p 29, .p 32, .p 34, .p 36, .p 38, .p 40, .p 42, .p 44, .p 46]) (ex_var 6) (ex_to (s := .p 50) (M2 := [.lst (intsS (ns.take 4)), .lst (intsS [ns.sum]), .lst (intsS (cells ns)), .xd [("value", .d .none)], .xo (cs 8) "no such permutation" (.p 3), .xd [("value", .d .none)], .xo (cs 5) "no such number" (.p 5), .xd [("value", .d .none)], .xo (cs 0) "no such colours" (.p 7), .xd [("value", .d .none)], .xo (cs 21) "nothing so called" (.p 9), .lst [.p 4, .p 6, .p 8, .p 10], .xd [("place", .d .none)], .xo (cs 11) "no such puzzle" (.p 12), .xd [("place", .d .none)], .xo (cs 20) "no such word" (.p 14), .xd [("place", .d .none)], .xo (cs 12) "no such recipe" (.p 16), .xd [("place", .d .none)], .xo (cs 3) "no such ladder" (.p 18), .xd [("place", .d .none)], .xo (cs 7) "no such paper" (.p 20), .xd [("place", .d .none)], .xo (cs 9) "no such pieces" (.p 22), .xd [("place", .d .none)], .xo (cs 2) "no such glue" (.p 24), .xd [("place", .d .none)], .xo (cs 19) "no such web" (.p 26), .xd [("place", .d .none)], .xo (cs 18) "no such text" (.p 28), .lst [.p 13, .p 15, .p 17, .p 19, .p 21, .p 23, .p 25, .p 27, .p 29], .xd [("place", .d .none)], .xo (cs 1) "no such deed" (.p 31), .xd [("place", .d .none)], .xo (cs 15) "no such stages" (.p 33), .xd [("place", .d .none)], .xo (cs 4) "no such macros" (.p 35), .xd [("place", .d .none)], .xo (cs 6) "no such orders" (.p 37), .xd [("place", .d .none)], .xo (cs 14) "no such row" (.p 39), .xd [("place", .d .none)], .xo (cs 17) "no such task" (.p 41), .xd [("place", .d .none)], .xo (cs 13) "no such replay" (.p 43), .xd [("place", .d .none)], .xo (cs 10) "no such prices" (.p 45), .lst [.p 32, .p 34, .p 36, .p 38, .p 40, .p 42, .p 44, .p 46], .lst [.p 13, .p 15, .p 17, .p 19, .p 21, .p 23, .p 25, .p 27, .p 29, .p 32, .p 34, .p 36, .p 38, .p 40, .p 42, .p 44, .p 46], .xd [("place", .d .none)], .xo (cs 16) "no such system" (.p 49)]) (ex_mkx0 w16) rfl rfl) rfl rfl (Nat.lt_of_le_of_lt (Nat.le_of_ble_eq_true rfl : _ ≤ 1000) (by decide))) rfl rfl
        · exact hN
        · intro _; rfl
def sO : List (Nat × Nat) := [(4, 8), (6, 5), (8, 0), (10, 21)]
def oO : List (Nat × Nat) := [(13, 11), (15, 20), (17, 12), (19, 3), (21, 7), (23, 9), (25, 2), (27, 19), (29, 18), (32, 1), (34, 15), (36, 4), (38, 6), (40, 14), (42, 17), (44, 13), (46, 10), (50, 16)]
def nons (k : Nat) : List S := (List.replicate k PyData.none).map S.d
theorem nons_eq (k : Nat) : ((List.range k).filter fun _ => true).map (fun _ => S.d .none) = nons k := by
  unfold nons
  rw [List.map_replicate]
  induction k with
  | zero => rfl
  | succ k ih => rw [List.range_succ, List.filter_append, List.map_append, ih, List.replicate_succ']; rfl
theorem nons_rep (k : Nat) : (List.replicate k [S.d .none]).flatten = nons k := by
  unfold nons
  rw [List.map_replicate]
  induction k with
  | zero => rfl
  | succ k ih => rw [List.replicate_succ, List.flatten_cons, ih]; rfl
theorem nons_shaped (k : Nat) (h : k ≤ 18) : SeqAt.shaped (.list (List.replicate k .none)) = true := by
  have key : ∀ i : Fin 19, SeqAt.shaped (.list (List.replicate i.val .none)) = true := by decide +kernel
  exact key ⟨k, by omega⟩
theorem lo_nons (n k : Nat) : loL n (nons k) := lo_data _ _
theorem st_fields {m : Ms} {N : Nd} {a : Addr} {ns : List Int} {cs : Nat → Addr} {z1 z2 z3 z4 : Option S} (F : KF m cs bT) (no : ∀ j, j < 23 → PySem.W.findIn m.K (.ref (cs j)) (fldn.getD j "") = some none)
    (hN : BX (cL m a ns) [some (.v (.ref a)), z1, z2, z3, z4, some (.p 11), some (.p 48), none, none, none, none, none, none] (W4 cs ns ++ [.lst (nons 4)] ++ [.lst [.d .none]] ++ [.lst (nons 4)] ++ [.lst (nons 18)] ++ [.lst [.d .none]] ++ [.lst (nons 18)]) ((defBody s_law).drop 6) N) :
    BX (cL m a ns) [some (.v (.ref a)), z1, z2, z3, z4, some (.p 11), some (.p 48), none, none, none, none, none, none] (W4 cs ns) ((defBody s_law).drop 5) N := by
  refine bx_cons ?_
  apply sx_if (q := false) (M1 := W4 cs ns ++ [.lst (nons 4)] ++ [.lst [.d .none]] ++ [.lst (nons 4)] ++ [.lst (nons 18)] ++ [.lst [.d .none]] ++ [.lst (nons 18)])
  · refine et_w (ew_orF (M1 := W4 cs ns ++ [.lst (nons 4)] ++ [.lst [.d .none]] ++ [.lst (nons 4)]) ?_ (ew_or1 ?_))
    · refine et_to (et_cmp (ex_to (s := .p 51) (M2 := W4 cs ns ++ [.lst (nons 4)]) (ex_lcP [("e", 9)] (ix_list' (m := .lst [.p 4, .p 6, .p 8, .p 10]) (ss := [.p 4, .p 6, .p 8, .p 10]) (ex_var 5) rfl rfl) (fun _ => true) (fun _ => .d .none) (fun acc => ⟨.lst [.p 4, .p 6, .p 8, .p 10], rfl, rfl⟩) (by decide) (lo_W4 cs ns) (fun _ _ _ => trivial) ?_) rfl (by rw [nons_eq]; rfl)) (ex_to (s := .p 53) (M2 := W4 cs ns ++ [.lst (nons 4)] ++ [.lst [.d .none]] ++ [.lst (nons 4)]) (ex_bin (ex_list (ea_cons ex_none ea_nil) (Nat.le_of_ble_eq_true rfl)) ex_int (os_rep (xs := [.d .none]) (by simp) (by decide) (by decide) (by decide))) rfl rfl) (os_neD (d := .list (List.replicate 4 .none)) (e := .list (List.replicate 4 .none)) (.l (m := .lst (nons 4)) (ss := nons 4) rfl rfl rfl) (.l (m := .lst (nons 4)) (ss := nons 4) rfl rfl rfl) (nons_shaped 4 (by decide)) (nons_shaped 4 (by decide))) (by with_unfolding_all rfl)) (by decide +kernel) rfl
      · rintro k hk acc
        have hk' : k < 4 := hk
        clear hk
        match k, hk' with
        | 0, _ => exact ⟨_, gw_name 9, ei_nil, fun _ => ex_xf (C := cs 8) (msg := "no such permutation") (j := 3) (fs := [("value", .d .none)]) (F.q 8 (by decide)) (no 8 (by decide)) (ex_var 9) rfl rfl rfl⟩
        | 1, _ => exact ⟨_, gw_name 9, ei_nil, fun _ => ex_xf (C := cs 5) (msg := "no such number") (j := 5) (fs := [("value", .d .none)]) (F.q 5 (by decide)) (no 5 (by decide)) (ex_var 9) rfl rfl rfl⟩
        | 2, _ => exact ⟨_, gw_name 9, ei_nil, fun _ => ex_xf (C := cs 0) (msg := "no such colours") (j := 7) (fs := [("value", .d .none)]) (F.q 0 (by decide)) (no 0 (by decide)) (ex_var 9) rfl rfl rfl⟩
        | 3, _ => exact ⟨_, gw_name 9, ei_nil, fun _ => ex_xf (C := cs 21) (msg := "nothing so called") (j := 9) (fs := [("value", .d .none)]) (F.q 21 (by decide)) (no 21 (by decide)) (ex_var 9) rfl rfl rfl⟩
        | n + 4, hk => exact absurd hk (Nat.not_lt.mpr (Nat.le_add_left 4 n))
    · have lo7 : loMs (W4 cs ns ++ [MO.lst (nons 4)] ++ [MO.lst [S.d .none]] ++ [MO.lst (nons 4)]).length (W4 cs ns ++ [MO.lst (nons 4)] ++ [MO.lst [S.d .none]] ++ [MO.lst (nons 4)]) :=
        loMs_app (loMs_app (loMs_app (loMs_mono (Nat.le_of_ble_eq_true rfl) (lo_W4 cs ns)) ⟨lo_nons _ _, trivial⟩) ⟨⟨trivial, trivial⟩, trivial⟩) ⟨lo_nons _ _, trivial⟩
      refine et_to (et_cmp (ex_to (s := .p 54) (M2 := W4 cs ns ++ [.lst (nons 4)] ++ [.lst [.d .none]] ++ [.lst (nons 4)] ++ [.lst (nons 18)]) (ex_lcP [("e", 9)] (ix_list' (m := .lst [.p 13, .p 15, .p 17, .p 19, .p 21, .p 23, .p 25, .p 27, .p 29, .p 32, .p 34, .p 36, .p 38, .p 40, .p 42, .p 44, .p 46, .p 50]) (ss := [.p 13, .p 15, .p 17, .p 19, .p 21, .p 23, .p 25, .p 27, .p 29, .p 32, .p 34, .p 36, .p 38, .p 40, .p 42, .p 44, .p 46, .p 50]) (ex_var 6) rfl rfl) (fun _ => true) (fun _ => .d .none) (fun acc => ⟨.lst [.p 13, .p 15, .p 17, .p 19, .p 21, .p 23, .p 25, .p 27, .p 29, .p 32, .p 34, .p 36, .p 38, .p 40, .p 42, .p 44, .p 46, .p 50], rfl, rfl⟩) (by decide) lo7 (fun _ _ _ => trivial) ?_) rfl (by rw [nons_eq]; rfl)) (ex_to (s := .p 56) (M2 := W4 cs ns ++ [.lst (nons 4)] ++ [.lst [.d .none]] ++ [.lst (nons 4)] ++ [.lst (nons 18)] ++ [.lst [.d .none]] ++ [.lst (nons 18)]) (ex_bin (ex_list (ea_cons ex_none ea_nil) (Nat.le_of_ble_eq_true rfl)) ex_int (os_rep (xs := [.d .none]) (by simp) (by decide) (by decide) (by decide))) rfl rfl) (os_neD (d := .list (List.replicate 18 .none)) (e := .list (List.replicate 18 .none)) (.l (m := .lst (nons 18)) (ss := nons 18) rfl rfl rfl) (.l (m := .lst (nons 18)) (ss := nons 18) rfl rfl rfl) (nons_shaped 18 (by decide)) (nons_shaped 18 (by decide))) (by with_unfolding_all rfl)) (by decide +kernel) rfl
      · rintro k hk acc
        have hk' : k < 18 := hk
        clear hk
        match k, hk' with
        | 0, _ => exact ⟨_, gw_name 9, ei_nil, fun _ => ex_xf (C := cs 11) (msg := "no such puzzle") (j := 12) (fs := [("place", .d .none)]) (F.q 11 (by decide)) (no 11 (by decide)) (ex_var 9) rfl rfl rfl⟩
        | 1, _ => exact ⟨_, gw_name 9, ei_nil, fun _ => ex_xf (C := cs 20) (msg := "no such word") (j := 14) (fs := [("place", .d .none)]) (F.q 20 (by decide)) (no 20 (by decide)) (ex_var 9) rfl rfl rfl⟩
        | 2, _ => exact ⟨_, gw_name 9, ei_nil, fun _ => ex_xf (C := cs 12) (msg := "no such recipe") (j := 16) (fs := [("place", .d .none)]) (F.q 12 (by decide)) (no 12 (by decide)) (ex_var 9) rfl rfl rfl⟩
        | 3, _ => exact ⟨_, gw_name 9, ei_nil, fun _ => ex_xf (C := cs 3) (msg := "no such ladder") (j := 18) (fs := [("place", .d .none)]) (F.q 3 (by decide)) (no 3 (by decide)) (ex_var 9) rfl rfl rfl⟩
        | 4, _ => exact ⟨_, gw_name 9, ei_nil, fun _ => ex_xf (C := cs 7) (msg := "no such paper") (j := 20) (fs := [("place", .d .none)]) (F.q 7 (by decide)) (no 7 (by decide)) (ex_var 9) rfl rfl rfl⟩
        | 5, _ => exact ⟨_, gw_name 9, ei_nil, fun _ => ex_xf (C := cs 9) (msg := "no such pieces") (j := 22) (fs := [("place", .d .none)]) (F.q 9 (by decide)) (no 9 (by decide)) (ex_var 9) rfl rfl rfl⟩
        | 6, _ => exact ⟨_, gw_name 9, ei_nil, fun _ => ex_xf (C := cs 2) (msg := "no such glue") (j := 24) (fs := [("place", .d .none)]) (F.q 2 (by decide)) (no 2 (by decide)) (ex_var 9) rfl rfl rfl⟩
        | 7, _ => exact ⟨_, gw_name 9, ei_nil, fun _ => ex_xf (C := cs 19) (msg := "no such web") (j := 26) (fs := [("place", .d .none)]) (F.q 19 (by decide)) (no 19 (by decide)) (ex_var 9) rfl rfl rfl⟩
        | 8, _ => exact ⟨_, gw_name 9, ei_nil, fun _ => ex_xf (C := cs 18) (msg := "no such text") (j := 28) (fs := [("place", .d .none)]) (F.q 18 (by decide)) (no 18 (by decide)) (ex_var 9) rfl rfl rfl⟩
        | 9, _ => exact ⟨_, gw_name 9, ei_nil, fun _ => ex_xf (C := cs 1) (msg := "no such deed") (j := 31) (fs := [("place", .d .none)]) (F.q 1 (by decide)) (no 1 (by decide)) (ex_var 9) rfl rfl rfl⟩
        | 10, _ => exact ⟨_, gw_name 9, ei_nil, fun _ => ex_xf (C := cs 15) (msg := "no such stages") (j := 33) (fs := [("place", .d .none)]) (F.q 15 (by decide)) (no 15 (by decide)) (ex_var 9) rfl rfl rfl⟩
        | 11, _ => exact ⟨_, gw_name 9, ei_nil, fun _ => ex_xf (C := cs 4) (msg := "no such macros") (j := 35) (fs := [("place", .d .none)]) (F.q 4 (by decide)) (no 4 (by decide)) (ex_var 9) rfl rfl rfl⟩
        | 12, _ => exact ⟨_, gw_name 9, ei_nil, fun _ => ex_xf (C := cs 6) (msg := "no such orders") (j := 37) (fs := [("place", .d .none)]) (F.q 6 (by decide)) (no 6 (by decide)) (ex_var 9) rfl rfl rfl⟩
        | 13, _ => exact ⟨_, gw_name 9, ei_nil, fun _ => ex_xf (C := cs 14) (msg := "no such row") (j := 39) (fs := [("place", .d .none)]) (F.q 14 (by decide)) (no 14 (by decide)) (ex_var 9) rfl rfl rfl⟩
        | 14, _ => exact ⟨_, gw_name 9, ei_nil, fun _ => ex_xf (C := cs 17) (msg := "no such task") (j := 41) (fs := [("place", .d .none)]) (F.q 17 (by decide)) (no 17 (by decide)) (ex_var 9) rfl rfl rfl⟩
        | 15, _ => exact ⟨_, gw_name 9, ei_nil, fun _ => ex_xf (C := cs 13) (msg := "no such replay") (j := 43) (fs := [("place", .d .none)]) (F.q 13 (by decide)) (no 13 (by decide)) (ex_var 9) rfl rfl rfl⟩
        | 16, _ => exact ⟨_, gw_name 9, ei_nil, fun _ => ex_xf (C := cs 10) (msg := "no such prices") (j := 45) (fs := [("place", .d .none)]) (F.q 10 (by decide)) (no 10 (by decide)) (ex_var 9) rfl rfl rfl⟩
        | 17, _ => exact ⟨_, gw_name 9, ei_nil, fun _ => ex_xf (C := cs 16) (msg := "no such system") (j := 49) (fs := [("place", .d .none)]) (F.q 16 (by decide)) (no 16 (by decide)) (ex_var 9) rfl rfl rfl⟩
        | n + 18, hk => exact absurd hk (Nat.not_lt.mpr (Nat.le_add_left 18 n))
  · intro q
    cases q
  · intro _
    exact bx_nil hN
end K

namespace K
open PySem PySem.Spec PyProof.Rows L2 DL DX
def W6 (cs : Nat → Addr) (ns : List Int) : Sto := W4 cs ns ++ [.lst (nons 4)] ++ [.lst [.d .none]] ++ [.lst (nons 4)] ++ [.lst (nons 18)] ++ [.lst [.d .none]] ++ [.lst (nons 18)]
theorem lo_W6 (cs : Nat → Addr) (ns : List Int) : loMs 57 (W6 cs ns) := loMs_app (loMs_app (loMs_app (loMs_app (loMs_app (loMs_app (loMs_mono (Nat.le_of_ble_eq_true rfl) (lo_W4 cs ns)) ⟨lo_nons _ _, trivial⟩) ⟨⟨trivial, trivial⟩, trivial⟩) ⟨lo_nons _ _, trivial⟩) ⟨lo_nons _ _, trivial⟩) ⟨⟨trivial, trivial⟩, trivial⟩) ⟨lo_nons _ _, trivial⟩
def V7 (cs : Nat → Addr) (x : PyData) : Sto := [.xd [("value", .d x)], .xo (cs 8) "no such permutation" (.p 57), .xd [("value", .d x)], .xo (cs 8) "no such permutation" (.p 59), .xd [("value", .d x)], .xo (cs 5) "no such number" (.p 61), .xd [("value", .d x)], .xo (cs 5) "no such number" (.p 63), .lst [.t [.p 58, .p 60, .d (.str "BadPerm")], .t [.p 62, .p 64, .d (.str "BadNumber")]], .xd [("value", .d x)], .xo (cs 0) "no such colours" (.p 66), .xd [("value", .d x)], .xo (cs 0) "no such colours" (.p 68), .lst [.t [.p 67, .p 69, .d (.str "BadColours")]], .lst [.t [.p 58, .p 60, .d (.str "BadPerm")], .t [.p 62, .p 64, .d (.str "BadNumber")], .t [.p 67, .p 69, .d (.str "BadColours")]]]
def P7 (cs : Nat → Addr) (x : PyData) : Sto := [.xd [("place", .d x)], .xo (cs 11) "no such puzzle" (.p 72), .xd [("place", .d x)], .xo (cs 11) "no such puzzle" (.p 74), .xd [("place", .d x)], .xo (cs 20) "no such word" (.p 76), .xd [("place", .d x)], .xo (cs 20) "no such word" (.p 78), .lst [.t [.p 73, .p 75, .d (.str "BadPuzzle")], .t [.p 77, .p 79, .d (.str "BadWord")]], .xd [("place", .d x)], .xo (cs 12) "no such recipe" (.p 81), .xd [("place", .d x)], .xo (cs 12) "no such recipe" (.p 83), .lst [.t [.p 82, .p 84, .d (.str "BadRecipe")]], .lst [.t [.p 73, .p 75, .d (.str "BadPuzzle")], .t [.p 77, .p 79, .d (.str "BadWord")], .t [.p 82, .p 84, .d (.str "BadRecipe")]], .xd [("place", .d x)], .xo (cs 3) "no such ladder" (.p 87), .xd [("place", .d x)], .xo (cs 3) "no such ladder" (.p 89), .lst [.t [.p 88, .p 90, .d (.str "BadLadder")]], .lst [.t [.p 73, .p 75, .d (.str "BadPuzzle")], .t [.p 77, .p 79, .d (.str "BadWord")], .t [.p 82, .p 84, .d (.str "BadRecipe")], .t [.p 88, .p 90, .d (.str "BadLadder")]], .xd [("place", .d x)], .xo (cs 7) "no such paper" (.p 93), .xd [("place", .d x)], .xo (cs 7) "no such paper" (.p 95), .lst [.t [.p 94, .p 96, .d (.str "BadPaper")]], .lst [.t [.p 73, .p 75, .d (.str "BadPuzzle")], .t [.p 77, .p 79, .d (.str "BadWord")], .t [.p 82, .p 84, .d (.str "BadRecipe")], .t [.p 88, .p 90, .d (.str "BadLadder")], .t [.p 94, .p 96, .d (.str "BadPaper")]], .xd [("place", .d x)], .xo (cs 9) "no such pieces" (.p 99), .xd [("place", .d x)], .xo (cs 9) "no such pieces" (.p 101), .lst [.t [.p 100, .p 102, .d (.str "BadPieces")]], .lst [.t [.p 73, .p 75, .d (.str "BadPuzzle")], .t [.p 77, .p 79, .d (.str "BadWord")], .t [.p 82, .p 84, .d (.str "BadRecipe")], .t [.p 88, .p 90, .d (.str "BadLadder")], .t [.p 94, .p 96, .d (.str "BadPaper")], .t [.p 100, .p 102, .d (.str "BadPieces")]], .xd [("place", .d x)], .xo (cs 2) "no such glue" (.p 105), .xd [("place", .d x)], .xo (cs 2) "no such glue" (.p 107), .xd [("place", .d x)], .xo (cs 19) "no such web" (.p 109), .xd [("place", .d x)], .xo (cs 19) "no such web" (.p 111), .lst [.t [.p 106, .p 108, .d (.str "BadGlue")], .t [.p 110, .p 112, .d (.str "BadWeb")]], .lst [.t [.p 73, .p 75, .d (.str "BadPuzzle")], .t [.p 77, .p 79, .d (.str "BadWord")], .t [.p 82, .p 84, .d (.str "BadRecipe")], .t [.p 88, .p 90, .d (.str "BadLadder")], .t [.p 94, .p 96, .d (.str "BadPaper")], .t [.p 100, .p 102, .d (.str "BadPieces")], .t [.p 106, .p 108, .d (.str "BadGlue")], .t [.p 110, .p 112, .d (.str "BadWeb")]], .xd [("place", .d x)], .xo (cs 18) "no such text" (.p 115), .xd [("place", .d x)], .xo (cs 18) "no such text" (.p 117), .xd [("place", .d x)], .xo (cs 1) "no such deed" (.p 119), .xd [("place", .d x)], .xo (cs 1) "no such deed" (.p 121), .lst [.t [.p 116, .p 118, .d (.str "BadText")], .t [.p 120, .p 122, .d (.str "BadDeed")]], .lst [.t [.p 73, .p 75, .d (.str "BadPuzzle")], .t [.p 77, .p 79, .d (.str "BadWord")], .t [.p 82, .p 84, .d (.str "BadRecipe")], .t [.p 88, .p 90, .d (.str "BadLadder")], .t [.p 94, .p 96, .d (.str "BadPaper")], .t [.p 100, .p 102, .d (.str "BadPieces")], .t [.p 106, .p 108, .d (.str "BadGlue")], .t [.p 110, .p 112, .d (.str "BadWeb")], .t [.p 116, .p 118, .d (.str "BadText")], .t [.p 120, .p 122, .d (.str "BadDeed")]], .xd [("place", .d x)], .xo (cs 15) "no such stages" (.p 125), .xd [("place", .d x)], .xo (cs 15) "no such stages" (.p 127), .lst [.t [.p 126, .p 128, .d (.str "BadStages")]], .lst [.t [.p 73, .p 75, .d (.str "BadPuzzle")], .t [.p 77, .p 79, .d (.str "BadWord")], .t [.p 82, .p 84, .d (.str "BadRecipe")], .t [.p 88, .p 90, .d (.str "BadLadder")], .t [.p 94, .p 96, .d (.str "BadPaper")], .t [.p 100, .p 102, .d (.str "BadPieces")], .t [.p 106, .p 108, .d (.str "BadGlue")], .t [.p 110, .p 112, .d (.str "BadWeb")], .t [.p 116, .p 118, .d (.str "BadText")], .t [.p 120, .p 122, .d (.str "BadDeed")], .t [.p 126, .p 128, .d (.str "BadStages")]], .xd [("place", .d x)], .xo (cs 4) "no such macros" (.p 131), .xd [("place", .d x)], .xo (cs 4) "no such macros" (.p 133), .lst [.t [.p 132, .p 134, .d (.str "BadMacros")]], .lst [.t [.p 73, .p 75, .d (.str "BadPuzzle")], .t [.p 77, .p 79, .d (.str "BadWord")], .t [.p 82, .p 84, .d (.str "BadRecipe")], .t [.p 88, .p 90, .d (.str "BadLadder")], .t [.p 94, .p 96, .d (.str "BadPaper")], .t [.p 100, .p 102, .d (.str "BadPieces")], .t [.p 106, .p 108, .d (.str "BadGlue")], .t [.p 110, .p 112, .d (.str "BadWeb")], .t [.p 116, .p 118, .d (.str "BadText")], .t [.p 120, .p 122, .d (.str "BadDeed")], .t [.p 126, .p 128, .d (.str "BadStages")], .t [.p 132, .p 134, .d (.str "BadMacros")]], .xd [("place", .d x)], .xo (cs 6) "no such orders" (.p 137), .xd [("place", .d x)], .xo (cs 6) "no such orders" (.p 139), .lst [.t [.p 138, .p 140, .d (.str "BadOrders")]], .lst [.t [.p 73, .p 75, .d (.str "BadPuzzle")], .t [.p 77, .p 79, .d (.str "BadWord")], .t [.p 82, .p 84, .d (.str "BadRecipe")], .t [.p 88, .p 90, .d (.str "BadLadder")], .t [.p 94, .p 96, .d (.str "BadPaper")], .t [.p 100, .p 102, .d (.str "BadPieces")], .t [.p 106, .p 108, .d (.str "BadGlue")], .t [.p 110, .p 112, .d (.str "BadWeb")], .t [.p 116, .p 118, .d (.str "BadText")], .t [.p 120, .p 122, .d (.str "BadDeed")], .t [.p 126, .p 128, .d (.str "BadStages")], .t [.p 132, .p 134, .d (.str "BadMacros")], .t [.p 138, .p 140, .d (.str "BadOrders")]], .xd [("place", .d x)], .xo (cs 14) "no such row" (.p 143), .xd [("place", .d x)], .xo (cs 14) "no such row" (.p 145), .xd [("place", .d x)], .xo (cs 17) "no such task" (.p 147), .xd [("place", .d x)], .xo (cs 17) "no such task" (.p 149), .lst [.t [.p 144, .p 146, .d (.str "BadRow")], .t [.p 148, .p 150, .d (.str "BadTask")]], .lst [.t [.p 73, .p 75, .d (.str "BadPuzzle")], .t [.p 77, .p 79, .d (.str "BadWord")], .t [.p 82, .p 84, .d (.str "BadRecipe")], .t [.p 88, .p 90, .d (.str "BadLadder")], .t [.p 94, .p 96, .d (.str "BadPaper")], .t [.p 100, .p 102, .d (.str "BadPieces")], .t [.p 106, .p 108, .d (.str "BadGlue")], .t [.p 110, .p 112, .d (.str "BadWeb")], .t [.p 116, .p 118, .d (.str "BadText")], .t [.p 120, .p 122, .d (.str "BadDeed")], .t [.p 126, .p 128, .d (.str "BadStages")], .t [.p 132, .p 134, .d (.str "BadMacros")], .t [.p 138, .p 140, .d (.str "BadOrders")], .t [.p 144, .p 146, .d (.str "BadRow")], .t [.p 148, .p 150, .d (.str "BadTask")]], .xd [("place", .d x)], .xo (cs 13) "no such replay" (.p 153), .xd [("place", .d x)], .xo (cs 13) "no such replay" (.p 155), .lst [.t [.p 154, .p 156, .d (.str "BadReplay")]], .lst [.t [.p 73, .p 75, .d (.str "BadPuzzle")], .t [.p 77, .p 79, .d (.str "BadWord")], .t [.p 82, .p 84, .d (.str "BadRecipe")], .t [.p 88, .p 90, .d (.str "BadLadder")], .t [.p 94, .p 96, .d (.str "BadPaper")], .t [.p 100, .p 102, .d (.str "BadPieces")], .t [.p 106, .p 108, .d (.str "BadGlue")], .t [.p 110, .p 112, .d (.str "BadWeb")], .t [.p 116, .p 118, .d (.str "BadText")], .t [.p 120, .p 122, .d (.str "BadDeed")], .t [.p 126, .p 128, .d (.str "BadStages")], .t [.p 132, .p 134, .d (.str "BadMacros")], .t [.p 138, .p 140, .d (.str "BadOrders")], .t [.p 144, .p 146, .d (.str "BadRow")], .t [.p 148, .p 150, .d (.str "BadTask")], .t [.p 154, .p 156, .d (.str "BadReplay")]], .xd [("place", .d x)], .xo (cs 10) "no such prices" (.p 159), .xd [("place", .d x)], .xo (cs 10) "no such prices" (.p 161), .lst [.t [.p 160, .p 162, .d (.str "BadPrices")]], .lst [.t [.p 73, .p 75, .d (.str "BadPuzzle")], .t [.p 77, .p 79, .d (.str "BadWord")], .t [.p 82, .p 84, .d (.str "BadRecipe")], .t [.p 88, .p 90, .d (.str "BadLadder")], .t [.p 94, .p 96, .d (.str "BadPaper")], .t [.p 100, .p 102, .d (.str "BadPieces")], .t [.p 106, .p 108, .d (.str "BadGlue")], .t [.p 110, .p 112, .d (.str "BadWeb")], .t [.p 116, .p 118, .d (.str "BadText")], .t [.p 120, .p 122, .d (.str "BadDeed")], .t [.p 126, .p 128, .d (.str "BadStages")], .t [.p 132, .p 134, .d (.str "BadMacros")], .t [.p 138, .p 140, .d (.str "BadOrders")], .t [.p 144, .p 146, .d (.str "BadRow")], .t [.p 148, .p 150, .d (.str "BadTask")], .t [.p 154, .p 156, .d (.str "BadReplay")], .t [.p 160, .p 162, .d (.str "BadPrices")]], .xd [("place", .d x)], .xo (cs 16) "no such system" (.p 165), .xd [("place", .d x)], .xo (cs 16) "no such system" (.p 167), .lst [.t [.p 166, .p 168, .d (.str "BadSystem")]], .lst [.t [.p 73, .p 75, .d (.str "BadPuzzle")], .t [.p 77, .p 79, .d (.str "BadWord")], .t [.p 82, .p 84, .d (.str "BadRecipe")], .t [.p 88, .p 90, .d (.str "BadLadder")], .t [.p 94, .p 96, .d (.str "BadPaper")], .t [.p 100, .p 102, .d (.str "BadPieces")], .t [.p 106, .p 108, .d (.str "BadGlue")], .t [.p 110, .p 112, .d (.str "BadWeb")], .t [.p 116, .p 118, .d (.str "BadText")], .t [.p 120, .p 122, .d (.str "BadDeed")], .t [.p 126, .p 128, .d (.str "BadStages")], .t [.p 132, .p 134, .d (.str "BadMacros")], .t [.p 138, .p 140, .d (.str "BadOrders")], .t [.p 144, .p 146, .d (.str "BadRow")], .t [.p 148, .p 150, .d (.str "BadTask")], .t [.p 154, .p 156, .d (.str "BadReplay")], .t [.p 160, .p 162, .d (.str "BadPrices")], .t [.p 166, .p 168, .d (.str "BadSystem")]]]
def W7 (cs : Nat → Addr) (ns : List Int) (x : PyData) : Sto := W6 cs ns ++ V7 cs x ++ P7 cs x ++ [.lst [.t [.p 58, .p 60, .d (.str "BadPerm")], .t [.p 62, .p 64, .d (.str "BadNumber")], .t [.p 67, .p 69, .d (.str "BadColours")], .t [.p 73, .p 75, .d (.str "BadPuzzle")], .t [.p 77, .p 79, .d (.str "BadWord")], .t [.p 82, .p 84, .d (.str "BadRecipe")], .t [.p 88, .p 90, .d (.str "BadLadder")], .t [.p 94, .p 96, .d (.str "BadPaper")], .t [.p 100, .p 102, .d (.str "BadPieces")], .t [.p 106, .p 108, .d (.str "BadGlue")], .t [.p 110, .p 112, .d (.str "BadWeb")], .t [.p 116, .p 118, .d (.str "BadText")], .t [.p 120, .p 122, .d (.str "BadDeed")], .t [.p 126, .p 128, .d (.str "BadStages")], .t [.p 132, .p 134, .d (.str "BadMacros")], .t [.p 138, .p 140, .d (.str "BadOrders")], .t [.p 144, .p 146, .d (.str "BadRow")], .t [.p 148, .p 150, .d (.str "BadTask")], .t [.p 154, .p 156, .d (.str "BadReplay")], .t [.p 160, .p 162, .d (.str "BadPrices")], .t [.p 166, .p 168, .d (.str "BadSystem")]]]
theorem lo_V7 (cs : Nat → Addr) (x : PyData) : loMs 172 (V7 cs x) := by
  unfold V7
  repeat' (first | exact trivial | exact Nat.le_of_ble_eq_true rfl | (refine ⟨?_, ?_⟩))
theorem lo_P7 (cs : Nat → Addr) (x : PyData) : loMs 172 (P7 cs x) := by
  unfold P7
  repeat' (first | exact trivial | exact Nat.le_of_ble_eq_true rfl | (refine ⟨?_, ?_⟩))
theorem lo_W7 (cs : Nat → Addr) (ns : List Int) (x : PyData) : loMs 172 (W7 cs ns x) := loMs_app (loMs_app (loMs_app (loMs_mono (Nat.le_of_ble_eq_true rfl) (lo_W6 cs ns)) (lo_V7 cs x)) (lo_P7 cs x)) (by repeat' (first | exact trivial | exact Nat.le_of_ble_eq_true rfl | (refine ⟨?_, ?_⟩)))
def ones : List S := [.p 58, .p 62, .p 67, .p 73, .p 77, .p 82, .p 88, .p 94, .p 100, .p 106, .p 110, .p 116, .p 120, .p 126, .p 132, .p 138, .p 144, .p 148, .p 154, .p 160, .p 166]
def W8 (cs : Nat → Addr) (ns : List Int) (x : PyData) : Sto := W7 cs ns x ++ [.lst ones, .xd [("value", .d x)], .xo (cs 21) "nothing so called" (.p 173), .xd [("most", .d x)], .xo (cs 22) "too many" (.p 175), .lst [.p 174, .p 176], .lst [.p 58, .p 62, .p 67, .p 73, .p 77, .p 82, .p 88, .p 94, .p 100, .p 106, .p 110, .p 116, .p 120, .p 126, .p 132, .p 138, .p 144, .p 148, .p 154, .p 160, .p 166, .p 174, .p 176]]
theorem lo_W8 (cs : Nat → Addr) (ns : List Int) (x : PyData) : loMs 179 (W8 cs ns x) := loMs_app (loMs_mono (Nat.le_of_ble_eq_true rfl) (lo_W7 cs ns x)) (by unfold ones; repeat' (first | exact trivial | exact Nat.le_of_ble_eq_true rfl | (refine ⟨?_, ?_⟩)))
end K

namespace K
open PySem PySem.Spec PyProof.Rows L2 DL DX
theorem la_1 {m : Ms} {a : Addr} {ns : List Int} {cs : Nat → Addr} {z1 z2 z3 z4 z5 z6 z8 : Option S} {x : PyData} {p1 p2 pos : Pos} (Fv : FnD m 3 "_law_valued" ["thing"] (Rvalued cs)) : EX (cL m a ns) [some (.v (.ref a)), z1, z2, z3, z4, z5, z6, some (.d x), z8, none, none, none, none] (W6 cs ns) (.Call (.Name "_law_valued" p1) [.Name "thing" p2] [] pos) (.p 71) (W6 cs ns ++ V7 cs x) := ex_call [] Fv (ea_cons (ex_var 7) ea_nil) ⟨x, rfl, rfl, rfl, rfl⟩ (proj_shn (ds := [x]) (r := .p 71) (M := W6 cs ns) (M2 := W6 cs ns ++ V7 cs x) 57 (by kernel_rfl) rfl (by kernel_rfl)) rfl
theorem la_2 {m : Ms} {a : Addr} {ns : List Int} {cs : Nat → Addr} {z1 z2 z3 z4 z5 z6 z8 : Option S} {x : PyData} {p1 p2 pos : Pos} (Fp : FnD m 3 "_law_placed" ["thing"] (Rplaced cs)) : EX (cL m a ns) [some (.v (.ref a)), z1, z2, z3, z4, z5, z6, some (.d x), z8, none, none, none, none] (W6 cs ns ++ V7 cs x) (.Call (.Name "_law_placed" p1) [.Name "thing" p2] [] pos) (.p 170) (W6 cs ns ++ V7 cs x ++ P7 cs x) := ex_call [] Fp (M1 := W6 cs ns ++ V7 cs x) (ea_cons (ex_var 7) ea_nil) ⟨x, rfl, rfl, rfl, rfl⟩ (proj_shn (ds := [x]) (r := .p 170) (M := W6 cs ns ++ V7 cs x) (M2 := W6 cs ns ++ V7 cs x ++ P7 cs x) 72 (by kernel_rfl) rfl (by kernel_rfl)) rfl
theorem la_3 {m : Ms} {a : Addr} {ns : List Int} {cs : Nat → Addr} {x : PyData} : OS (cL m a ns) (binaryOp .Add) (.p 71) (.p 170) (W6 cs ns ++ V7 cs x ++ P7 cs x) (.p 171) (W7 cs ns x) := OS.to (os_cat (xs := [.t [.p 58, .p 60, .d (.str "BadPerm")], .t [.p 62, .p 64, .d (.str "BadNumber")], .t [.p 67, .p 69, .d (.str "BadColours")]]) (ys := [.t [.p 73, .p 75, .d (.str "BadPuzzle")], .t [.p 77, .p 79, .d (.str "BadWord")], .t [.p 82, .p 84, .d (.str "BadRecipe")], .t [.p 88, .p 90, .d (.str "BadLadder")], .t [.p 94, .p 96, .d (.str "BadPaper")], .t [.p 100, .p 102, .d (.str "BadPieces")], .t [.p 106, .p 108, .d (.str "BadGlue")], .t [.p 110, .p 112, .d (.str "BadWeb")], .t [.p 116, .p 118, .d (.str "BadText")], .t [.p 120, .p 122, .d (.str "BadDeed")], .t [.p 126, .p 128, .d (.str "BadStages")], .t [.p 132, .p 134, .d (.str "BadMacros")], .t [.p 138, .p 140, .d (.str "BadOrders")], .t [.p 144, .p 146, .d (.str "BadRow")], .t [.p 148, .p 150, .d (.str "BadTask")], .t [.p 154, .p 156, .d (.str "BadReplay")], .t [.p 160, .p 162, .d (.str "BadPrices")], .t [.p 166, .p 168, .d (.str "BadSystem")]]) (by kernel_rfl) (by kernel_rfl) (Nat.le_of_ble_eq_true rfl)) (by kernel_rfl) (by kernel_rfl)
theorem la_4 {m : Ms} {a : Addr} {ns : List Int} {cs : Nat → Addr} {z1 z2 z3 z4 z5 z6 z8 : Option S} {x : PyData} {p1 p2 p3 p4 p5 p6 pos : Pos} (FM : KM m cs) : EX (cL m a ns) [some (.v (.ref a)), z1, z2, z3, z4, z5, z6, some (.d x), z8, none, none, none, none] (W7 cs ns x ++ [.lst ones]) (.List [.Call (.Name "NoSuch" p1) [.Name "thing" p2] [] p3, .Call (.Name "TooMany" p4) [.Name "thing" p5] [] p6] pos) (.p 177) (W7 cs ns x ++ [.lst ones, .xd [("value", .d x)], .xo (cs 21) "nothing so called" (.p 173), .xd [("most", .d x)], .xo (cs 22) "too many" (.p 175), .lst [.p 174, .p 176]]) := by
  have w21 : XM m "NoSuch" (cs 21) "value" "nothing so called" "value" true := FM 21 (by decide)
  have w22 : XM m "TooMany" (cs 22) "most" "too many" "most" false := FM 22 (by decide)
  exact ex_to (ex_list (rs := [.p 174, .p 176]) (ea_cons (M1 := W7 cs ns x ++ [.lst ones, .xd [("value", .d x)], .xo (cs 21) "nothing so called" (.p 173)]) (ex_to (ex_mkx w21 (ex_var 7)) (by kernel_rfl) (by kernel_rfl)) (ea_cons (M1 := W7 cs ns x ++ [.lst ones, .xd [("value", .d x)], .xo (cs 21) "nothing so called" (.p 173), .xd [("most", .d x)], .xo (cs 22) "too many" (.p 175)]) (ex_to (ex_mkx w22 (ex_var 7)) (by kernel_rfl) (by kernel_rfl)) ea_nil)) (Nat.le_of_ble_eq_true rfl)) (by kernel_rfl) (by kernel_rfl)
theorem la_5 {m : Ms} {a : Addr} {ns : List Int} {cs : Nat → Addr} {x : PyData} : OS (cL m a ns) (binaryOp .Add) (.p 172) (.p 177) (W7 cs ns x ++ [.lst ones, .xd [("value", .d x)], .xo (cs 21) "nothing so called" (.p 173), .xd [("most", .d x)], .xo (cs 22) "too many" (.p 175), .lst [.p 174, .p 176]]) (.p 178) (W8 cs ns x) := OS.to (os_cat (xs := ones) (ys := [.p 174, .p 176]) (by kernel_rfl) (by kernel_rfl) (Nat.le_of_ble_eq_true rfl)) (by kernel_rfl) (by kernel_rfl)
end K

namespace K
open PySem PySem.Spec PyProof.Rows L2 DL DX
theorem len_W7 (cs : Nat → Addr) (ns : List Int) (x : PyData) : (W7 cs ns x).length = 172 := by kernel_rfl
theorem len_W8 (cs : Nat → Addr) (ns : List Int) (x : PyData) : (W8 cs ns x).length = 179 := by kernel_rfl
theorem ones_lo (n : Nat) (h : 171 ≤ n) (k : Nat) (hk : k < 21) : loS n (ones.getD k (.d .none)) := by
  have key : ∀ i : Fin 21, ∃ j, ones.getD i.val (.d .none) = .p j ∧ j < 171 := by
    intro i
    match i with
    | ⟨0, _⟩ => exact ⟨58, rfl, by decide⟩
    | ⟨1, _⟩ => exact ⟨62, rfl, by decide⟩
    | ⟨2, _⟩ => exact ⟨67, rfl, by decide⟩
    | ⟨3, _⟩ => exact ⟨73, rfl, by decide⟩
    | ⟨4, _⟩ => exact ⟨77, rfl, by decide⟩
    | ⟨5, _⟩ => exact ⟨82, rfl, by decide⟩
    | ⟨6, _⟩ => exact ⟨88, rfl, by decide⟩
    | ⟨7, _⟩ => exact ⟨94, rfl, by decide⟩
    | ⟨8, _⟩ => exact ⟨100, rfl, by decide⟩
    | ⟨9, _⟩ => exact ⟨106, rfl, by decide⟩
    | ⟨10, _⟩ => exact ⟨110, rfl, by decide⟩
    | ⟨11, _⟩ => exact ⟨116, rfl, by decide⟩
    | ⟨12, _⟩ => exact ⟨120, rfl, by decide⟩
    | ⟨13, _⟩ => exact ⟨126, rfl, by decide⟩
    | ⟨14, _⟩ => exact ⟨132, rfl, by decide⟩
    | ⟨15, _⟩ => exact ⟨138, rfl, by decide⟩
    | ⟨16, _⟩ => exact ⟨144, rfl, by decide⟩
    | ⟨17, _⟩ => exact ⟨148, rfl, by decide⟩
    | ⟨18, _⟩ => exact ⟨154, rfl, by decide⟩
    | ⟨19, _⟩ => exact ⟨160, rfl, by decide⟩
    | ⟨20, _⟩ => exact ⟨166, rfl, by decide⟩
    | ⟨n + 21, h⟩ => exact absurd h (Nat.not_lt.mpr (Nat.le_add_left 21 n))
  obtain ⟨j, e1, e2⟩ := key ⟨k, hk⟩
  rw [e1]
  exact Nat.lt_of_lt_of_le e2 h
theorem turn_last {m : Ms} {N : Nd} {a : Addr} {ns : List Int} {cs : Nat → Addr} {z1 z2 z3 z4 z5 z6 z8 : Option S} {x : PyData} {q : Str} (F : KF m cs bT) (FM : KM m cs) (Fv : FnD m 3 "_law_valued" ["thing"] (Rvalued cs)) (Fp : FnD m 3 "_law_placed" ["thing"] (Rplaced cs)) (hst : m.mg "str" = none)
    (hs : ∀ (c : Cs) (M : Sto), CS c (.type "str") [.d x] M (.d (.str q)) M) (hno : ∀ j, j < 23 → (!(Builtin.Str.occurrences (msgs.getD j "") q 0 (msgs.getD j "").length 1).isEmpty) = false)
    (hN : ∀ Γ M', M'.take 57 = W6 cs ns → 57 ≤ M'.length → Γ = [some (.v (.ref a)), z1, z2, z3, z4, z5, z6, some (.d x), some (.p 178), none, none, none, none] → N.nx Γ M') :
    BX (cL m a ns) [some (.v (.ref a)), z1, z2, z3, z4, z5, z6, some (.d x), z8, none, none, none, none] (W6 cs ns) (forBody ((defBody s_law).getD 6 (.Pass ⟨0, 0, 0, 0⟩))) N := by
  refine bx_cons ?_
  apply sx_set 8
  · refine ex_bin (x := .p 172) (M1 := W7 cs ns x ++ [.lst ones]) (ex_to (ex_lcP [("one", 10), ("other", 11), ("name", 12)] (W := W7 cs ns x) (ix_list' (k := 171) (m := .lst [.t [.p 58, .p 60, .d (.str "BadPerm")], .t [.p 62, .p 64, .d (.str "BadNumber")], .t [.p 67, .p 69, .d (.str "BadColours")], .t [.p 73, .p 75, .d (.str "BadPuzzle")], .t [.p 77, .p 79, .d (.str "BadWord")], .t [.p 82, .p 84, .d (.str "BadRecipe")], .t [.p 88, .p 90, .d (.str "BadLadder")], .t [.p 94, .p 96, .d (.str "BadPaper")], .t [.p 100, .p 102, .d (.str "BadPieces")], .t [.p 106, .p 108, .d (.str "BadGlue")], .t [.p 110, .p 112, .d (.str "BadWeb")], .t [.p 116, .p 118, .d (.str "BadText")], .t [.p 120, .p 122, .d (.str "BadDeed")], .t [.p 126, .p 128, .d (.str "BadStages")], .t [.p 132, .p 134, .d (.str "BadMacros")], .t [.p 138, .p 140, .d (.str "BadOrders")], .t [.p 144, .p 146, .d (.str "BadRow")], .t [.p 148, .p 150, .d (.str "BadTask")], .t [.p 154, .p 156, .d (.str "BadReplay")], .t [.p 160, .p 162, .d (.str "BadPrices")], .t [.p 166, .p 168, .d (.str "BadSystem")]]) (ss := [.t [.p 58, .p 60, .d (.str "BadPerm")], .t [.p 62, .p 64, .d (.str "BadNumber")], .t [.p 67, .p 69, .d (.str "BadColours")], .t [.p 73, .p 75, .d (.str "BadPuzzle")], .t [.p 77, .p 79, .d (.str "BadWord")], .t [.p 82, .p 84, .d (.str "BadRecipe")], .t [.p 88, .p 90, .d (.str "BadLadder")], .t [.p 94, .p 96, .d (.str "BadPaper")], .t [.p 100, .p 102, .d (.str "BadPieces")], .t [.p 106, .p 108, .d (.str "BadGlue")], .t [.p 110, .p 112, .d (.str "BadWeb")], .t [.p 116, .p 118, .d (.str "BadText")], .t [.p 120, .p 122, .d (.str "BadDeed")], .t [.p 126, .p 128, .d (.str "BadStages")], .t [.p 132, .p 134, .d (.str "BadMacros")], .t [.p 138, .p 140, .d (.str "BadOrders")], .t [.p 144, .p 146, .d (.str "BadRow")], .t [.p 148, .p 150, .d (.str "BadTask")], .t [.p 154, .p 156, .d (.str "BadReplay")], .t [.p 160, .p 162, .d (.str "BadPrices")], .t [.p 166, .p 168, .d (.str "BadSystem")]]) (ex_bin (la_1 Fv) (la_2 Fp) la_3) (by kernel_rfl) rfl) (fun _ => true) (fun k => ones.getD k (.d .none)) (fun acc => ⟨.lst [.t [.p 58, .p 60, .d (.str "BadPerm")], .t [.p 62, .p 64, .d (.str "BadNumber")], .t [.p 67, .p 69, .d (.str "BadColours")], .t [.p 73, .p 75, .d (.str "BadPuzzle")], .t [.p 77, .p 79, .d (.str "BadWord")], .t [.p 82, .p 84, .d (.str "BadRecipe")], .t [.p 88, .p 90, .d (.str "BadLadder")], .t [.p 94, .p 96, .d (.str "BadPaper")], .t [.p 100, .p 102, .d (.str "BadPieces")], .t [.p 106, .p 108, .d (.str "BadGlue")], .t [.p 110, .p 112, .d (.str "BadWeb")], .t [.p 116, .p 118, .d (.str "BadText")], .t [.p 120, .p 122, .d (.str "BadDeed")], .t [.p 126, .p 128, .d (.str "BadStages")], .t [.p 132, .p 134, .d (.str "BadMacros")], .t [.p 138, .p 140, .d (.str "BadOrders")], .t [.p 144, .p 146, .d (.str "BadRow")], .t [.p 148, .p 150, .d (.str "BadTask")], .t [.p 154, .p 156, .d (.str "BadReplay")], .t [.p 160, .p 162, .d (.str "BadPrices")], .t [.p 166, .p 168, .d (.str "BadSystem")]], by kernel_rfl, rfl⟩) (by decide) (by rw [len_W7]; exact lo_W7 cs ns x) ?_ ?_) (by rw [len_W7]) (by kernel_rfl)) (la_4 FM) la_5
    · intro k hk _
      rw [len_W7]
      exact ones_lo _ (by decide) k hk
    · rintro k hk acc
      have hk' : k < 21 := hk
      clear hk
      match k, hk' with
      | 0, _ => exact ⟨_, gw_tup (show Items (.t [.p 58, .p 60, .d (.str "BadPerm")]) _ from rfl) (gws_cons (gw_name 10) (gws_cons (gw_name 11) (gws_cons (gw_name 12) gws_nil))), ei_nil, fun _ => ex_var 10⟩
      | 1, _ => exact ⟨_, gw_tup (show Items (.t [.p 62, .p 64, .d (.str "BadNumber")]) _ from rfl) (gws_cons (gw_name 10) (gws_cons (gw_name 11) (gws_cons (gw_name 12) gws_nil))), ei_nil, fun _ => ex_var 10⟩
      | 2, _ => exact ⟨_, gw_tup (show Items (.t [.p 67, .p 69, .d (.str "BadColours")]) _ from rfl) (gws_cons (gw_name 10) (gws_cons (gw_name 11) (gws_cons (gw_name 12) gws_nil))), ei_nil, fun _ => ex_var 10⟩
      | 3, _ => exact ⟨_, gw_tup (show Items (.t [.p 73, .p 75, .d (.str "BadPuzzle")]) _ from rfl) (gws_cons (gw_name 10) (gws_cons (gw_name 11) (gws_cons (gw_name 12) gws_nil))), ei_nil, fun _ => ex_var 10⟩
      | 4, _ => exact ⟨_, gw_tup (show Items (.t [.p 77, .p 79, .d (.str "BadWord")]) _ from rfl) (gws_cons (gw_name 10) (gws_cons (gw_name 11) (gws_cons (gw_name 12) gws_nil))), ei_nil, fun _ => ex_var 10⟩
      | 5, _ => exact ⟨_, gw_tup (show Items (.t [.p 82, .p 84, .d (.str "BadRecipe")]) _ from rfl) (gws_cons (gw_name 10) (gws_cons (gw_name 11) (gws_cons (gw_name 12) gws_nil))), ei_nil, fun _ => ex_var 10⟩
      | 6, _ => exact ⟨_, gw_tup (show Items (.t [.p 88, .p 90, .d (.str "BadLadder")]) _ from rfl) (gws_cons (gw_name 10) (gws_cons (gw_name 11) (gws_cons (gw_name 12) gws_nil))), ei_nil, fun _ => ex_var 10⟩
      | 7, _ => exact ⟨_, gw_tup (show Items (.t [.p 94, .p 96, .d (.str "BadPaper")]) _ from rfl) (gws_cons (gw_name 10) (gws_cons (gw_name 11) (gws_cons (gw_name 12) gws_nil))), ei_nil, fun _ => ex_var 10⟩
      | 8, _ => exact ⟨_, gw_tup (show Items (.t [.p 100, .p 102, .d (.str "BadPieces")]) _ from rfl) (gws_cons (gw_name 10) (gws_cons (gw_name 11) (gws_cons (gw_name 12) gws_nil))), ei_nil, fun _ => ex_var 10⟩
      | 9, _ => exact ⟨_, gw_tup (show Items (.t [.p 106, .p 108, .d (.str "BadGlue")]) _ from rfl) (gws_cons (gw_name 10) (gws_cons (gw_name 11) (gws_cons (gw_name 12) gws_nil))), ei_nil, fun _ => ex_var 10⟩
      | 10, _ => exact ⟨_, gw_tup (show Items (.t [.p 110, .p 112, .d (.str "BadWeb")]) _ from rfl) (gws_cons (gw_name 10) (gws_cons (gw_name 11) (gws_cons (gw_name 12) gws_nil))), ei_nil, fun _ => ex_var 10⟩
      | 11, _ => exact ⟨_, gw_tup (show Items (.t [.p 116, .p 118, .d (.str "BadText")]) _ from rfl) (gws_cons (gw_name 10) (gws_cons (gw_name 11) (gws_cons (gw_name 12) gws_nil))), ei_nil, fun _ => ex_var 10⟩
      | 12, _ => exact ⟨_, gw_tup (show Items (.t [.p 120, .p 122, .d (.str "BadDeed")]) _ from rfl) (gws_cons (gw_name 10) (gws_cons (gw_name 11) (gws_cons (gw_name 12) gws_nil))), ei_nil, fun _ => ex_var 10⟩
      | 13, _ => exact ⟨_, gw_tup (show Items (.t [.p 126, .p 128, .d (.str "BadStages")]) _ from rfl) (gws_cons (gw_name 10) (gws_cons (gw_name 11) (gws_cons (gw_name 12) gws_nil))), ei_nil, fun _ => ex_var 10⟩
      | 14, _ => exact ⟨_, gw_tup (show Items (.t [.p 132, .p 134, .d (.str "BadMacros")]) _ from rfl) (gws_cons (gw_name 10) (gws_cons (gw_name 11) (gws_cons (gw_name 12) gws_nil))), ei_nil, fun _ => ex_var 10⟩
      | 15, _ => exact ⟨_, gw_tup (show Items (.t [.p 138, .p 140, .d (.str "BadOrders")]) _ from rfl) (gws_cons (gw_name 10) (gws_cons (gw_name 11) (gws_cons (gw_name 12) gws_nil))), ei_nil, fun _ => ex_var 10⟩
      | 16, _ => exact ⟨_, gw_tup (show Items (.t [.p 144, .p 146, .d (.str "BadRow")]) _ from rfl) (gws_cons (gw_name 10) (gws_cons (gw_name 11) (gws_cons (gw_name 12) gws_nil))), ei_nil, fun _ => ex_var 10⟩
      | 17, _ => exact ⟨_, gw_tup (show Items (.t [.p 148, .p 150, .d (.str "BadTask")]) _ from rfl) (gws_cons (gw_name 10) (gws_cons (gw_name 11) (gws_cons (gw_name 12) gws_nil))), ei_nil, fun _ => ex_var 10⟩
      | 18, _ => exact ⟨_, gw_tup (show Items (.t [.p 154, .p 156, .d (.str "BadReplay")]) _ from rfl) (gws_cons (gw_name 10) (gws_cons (gw_name 11) (gws_cons (gw_name 12) gws_nil))), ei_nil, fun _ => ex_var 10⟩
      | 19, _ => exact ⟨_, gw_tup (show Items (.t [.p 160, .p 162, .d (.str "BadPrices")]) _ from rfl) (gws_cons (gw_name 10) (gws_cons (gw_name 11) (gws_cons (gw_name 12) gws_nil))), ei_nil, fun _ => ex_var 10⟩
      | 20, _ => exact ⟨_, gw_tup (show Items (.t [.p 166, .p 168, .d (.str "BadSystem")]) _ from rfl) (gws_cons (gw_name 10) (gws_cons (gw_name 11) (gws_cons (gw_name 12) gws_nil))), ei_nil, fun _ => ex_var 10⟩
      | n + 21, hk => exact absurd hk (Nat.not_lt.mpr (Nat.le_add_left 21 n))
  · refine bx_one ?_
    apply sx_if (q := false) (M1 := W8 cs ns x ++ [.lst []] ++ [.lst []])
    · refine et_to (et_cmp (ex_to (s := .p 179) (M2 := W8 cs ns x ++ [.lst []]) (ex_lcP [("e", 9)] (W := W8 cs ns x) (ix_list' (m := .lst [.p 58, .p 62, .p 67, .p 73, .p 77, .p 82, .p 88, .p 94, .p 100, .p 106, .p 110, .p 116, .p 120, .p 126, .p 132, .p 138, .p 144, .p 148, .p 154, .p 160, .p 166, .p 174, .p 176]) (ss := [.p 58, .p 62, .p 67, .p 73, .p 77, .p 82, .p 88, .p 94, .p 100, .p 106, .p 110, .p 116, .p 120, .p 126, .p 132, .p 138, .p 144, .p 148, .p 154, .p 160, .p 166, .p 174, .p 176]) (ex_var 8) (by kernel_rfl) rfl) (fun _ => false) (fun _ => .d .none) (fun acc => ⟨.lst [.p 58, .p 62, .p 67, .p 73, .p 77, .p 82, .p 88, .p 94, .p 100, .p 106, .p 110, .p 116, .p 120, .p 126, .p 132, .p 138, .p 144, .p 148, .p 154, .p 160, .p 166, .p 174, .p 176], by kernel_rfl, rfl⟩) (by decide) (by rw [len_W8]; exact lo_W8 cs ns x) (fun _ _ _ => trivial) ?_) (by rw [len_W8]) (by kernel_rfl)) (ex_to (s := .p 180) (M2 := W8 cs ns x ++ [.lst []] ++ [.lst []]) (ex_list ea_nil (Nat.zero_le _)) (by kernel_rfl) rfl) (os_neD (d := .list []) (e := .list []) (.l (m := .lst []) (ss := []) (by kernel_rfl) rfl rfl) (.l (m := .lst []) (ss := []) (by kernel_rfl) rfl rfl) rfl rfl) (by with_unfolding_all rfl)) (by decide +kernel) rfl
      · rintro k hk acc
        have hk' : k < 23 := hk
        clear hk
        match k, hk' with
        | 0, _ => exact ⟨_, gw_name 9, ei_one (et_to (et_cmp (ex_callTy (hs _ _) (ea_cons (ex_var 7) ea_nil) hst rfl) (ex_callTy (cs_strx (C := cs 8) (msg := "no such permutation") (s := .p 57) (F.q 8 (by decide)) (by kernel_rfl)) (ea_cons (ex_var 9) ea_nil) hst rfl) os_inS (by with_unfolding_all rfl)) (hno 8 (by decide)) rfl), fun q => absurd q Bool.false_ne_true⟩
        | 1, _ => exact ⟨_, gw_name 9, ei_one (et_to (et_cmp (ex_callTy (hs _ _) (ea_cons (ex_var 7) ea_nil) hst rfl) (ex_callTy (cs_strx (C := cs 5) (msg := "no such number") (s := .p 61) (F.q 5 (by decide)) (by kernel_rfl)) (ea_cons (ex_var 9) ea_nil) hst rfl) os_inS (by with_unfolding_all rfl)) (hno 5 (by decide)) rfl), fun q => absurd q Bool.false_ne_true⟩
        | 2, _ => exact ⟨_, gw_name 9, ei_one (et_to (et_cmp (ex_callTy (hs _ _) (ea_cons (ex_var 7) ea_nil) hst rfl) (ex_callTy (cs_strx (C := cs 0) (msg := "no such colours") (s := .p 66) (F.q 0 (by decide)) (by kernel_rfl)) (ea_cons (ex_var 9) ea_nil) hst rfl) os_inS (by with_unfolding_all rfl)) (hno 0 (by decide)) rfl), fun q => absurd q Bool.false_ne_true⟩
        | 3, _ => exact ⟨_, gw_name 9, ei_one (et_to (et_cmp (ex_callTy (hs _ _) (ea_cons (ex_var 7) ea_nil) hst rfl) (ex_callTy (cs_strx (C := cs 11) (msg := "no such puzzle") (s := .p 72) (F.q 11 (by decide)) (by kernel_rfl)) (ea_cons (ex_var 9) ea_nil) hst rfl) os_inS (by with_unfolding_all rfl)) (hno 11 (by decide)) rfl), fun q => absurd q Bool.false_ne_true⟩
        | 4, _ => exact ⟨_, gw_name 9, ei_one (et_to (et_cmp (ex_callTy (hs _ _) (ea_cons (ex_var 7) ea_nil) hst rfl) (ex_callTy (cs_strx (C := cs 20) (msg := "no such word") (s := .p 76) (F.q 20 (by decide)) (by kernel_rfl)) (ea_cons (ex_var 9) ea_nil) hst rfl) os_inS (by with_unfolding_all rfl)) (hno 20 (by decide)) rfl), fun q => absurd q Bool.false_ne_true⟩
        | 5, _ => exact ⟨_, gw_name 9, ei_one (et_to (et_cmp (ex_callTy (hs _ _) (ea_cons (ex_var 7) ea_nil) hst rfl) (ex_callTy (cs_strx (C := cs 12) (msg := "no such recipe") (s := .p 81) (F.q 12 (by decide)) (by kernel_rfl)) (ea_cons (ex_var 9) ea_nil) hst rfl) os_inS (by with_unfolding_all rfl)) (hno 12 (by decide)) rfl), fun q => absurd q Bool.false_ne_true⟩
        | 6, _ => exact ⟨_, gw_name 9, ei_one (et_to (et_cmp (ex_callTy (hs _ _) (ea_cons (ex_var 7) ea_nil) hst rfl) (ex_callTy (cs_strx (C := cs 3) (msg := "no such ladder") (s := .p 87) (F.q 3 (by decide)) (by kernel_rfl)) (ea_cons (ex_var 9) ea_nil) hst rfl) os_inS (by with_unfolding_all rfl)) (hno 3 (by decide)) rfl), fun q => absurd q Bool.false_ne_true⟩
        | 7, _ => exact ⟨_, gw_name 9, ei_one (et_to (et_cmp (ex_callTy (hs _ _) (ea_cons (ex_var 7) ea_nil) hst rfl) (ex_callTy (cs_strx (C := cs 7) (msg := "no such paper") (s := .p 93) (F.q 7 (by decide)) (by kernel_rfl)) (ea_cons (ex_var 9) ea_nil) hst rfl) os_inS (by with_unfolding_all rfl)) (hno 7 (by decide)) rfl), fun q => absurd q Bool.false_ne_true⟩
        | 8, _ => exact ⟨_, gw_name 9, ei_one (et_to (et_cmp (ex_callTy (hs _ _) (ea_cons (ex_var 7) ea_nil) hst rfl) (ex_callTy (cs_strx (C := cs 9) (msg := "no such pieces") (s := .p 99) (F.q 9 (by decide)) (by kernel_rfl)) (ea_cons (ex_var 9) ea_nil) hst rfl) os_inS (by with_unfolding_all rfl)) (hno 9 (by decide)) rfl), fun q => absurd q Bool.false_ne_true⟩
        | 9, _ => exact ⟨_, gw_name 9, ei_one (et_to (et_cmp (ex_callTy (hs _ _) (ea_cons (ex_var 7) ea_nil) hst rfl) (ex_callTy (cs_strx (C := cs 2) (msg := "no such glue") (s := .p 105) (F.q 2 (by decide)) (by kernel_rfl)) (ea_cons (ex_var 9) ea_nil) hst rfl) os_inS (by with_unfolding_all rfl)) (hno 2 (by decide)) rfl), fun q => absurd q Bool.false_ne_true⟩
        | 10, _ => exact ⟨_, gw_name 9, ei_one (et_to (et_cmp (ex_callTy (hs _ _) (ea_cons (ex_var 7) ea_nil) hst rfl) (ex_callTy (cs_strx (C := cs 19) (msg := "no such web") (s := .p 109) (F.q 19 (by decide)) (by kernel_rfl)) (ea_cons (ex_var 9) ea_nil) hst rfl) os_inS (by with_unfolding_all rfl)) (hno 19 (by decide)) rfl), fun q => absurd q Bool.false_ne_true⟩
        | 11, _ => exact ⟨_, gw_name 9, ei_one (et_to (et_cmp (ex_callTy (hs _ _) (ea_cons (ex_var 7) ea_nil) hst rfl) (ex_callTy (cs_strx (C := cs 18) (msg := "no such text") (s := .p 115) (F.q 18 (by decide)) (by kernel_rfl)) (ea_cons (ex_var 9) ea_nil) hst rfl) os_inS (by with_unfolding_all rfl)) (hno 18 (by decide)) rfl), fun q => absurd q Bool.false_ne_true⟩
        | 12, _ => exact ⟨_, gw_name 9, ei_one (et_to (et_cmp (ex_callTy (hs _ _) (ea_cons (ex_var 7) ea_nil) hst rfl) (ex_callTy (cs_strx (C := cs 1) (msg := "no such deed") (s := .p 119) (F.q 1 (by decide)) (by kernel_rfl)) (ea_cons (ex_var 9) ea_nil) hst rfl) os_inS (by with_unfolding_all rfl)) (hno 1 (by decide)) rfl), fun q => absurd q Bool.false_ne_true⟩
        | 13, _ => exact ⟨_, gw_name 9, ei_one (et_to (et_cmp (ex_callTy (hs _ _) (ea_cons (ex_var 7) ea_nil) hst rfl) (ex_callTy (cs_strx (C := cs 15) (msg := "no such stages") (s := .p 125) (F.q 15 (by decide)) (by kernel_rfl)) (ea_cons (ex_var 9) ea_nil) hst rfl) os_inS (by with_unfolding_all rfl)) (hno 15 (by decide)) rfl), fun q => absurd q Bool.false_ne_true⟩
        | 14, _ => exact ⟨_, gw_name 9, ei_one (et_to (et_cmp (ex_callTy (hs _ _) (ea_cons (ex_var 7) ea_nil) hst rfl) (ex_callTy (cs_strx (C := cs 4) (msg := "no such macros") (s := .p 131) (F.q 4 (by decide)) (by kernel_rfl)) (ea_cons (ex_var 9) ea_nil) hst rfl) os_inS (by with_unfolding_all rfl)) (hno 4 (by decide)) rfl), fun q => absurd q Bool.false_ne_true⟩
        | 15, _ => exact ⟨_, gw_name 9, ei_one (et_to (et_cmp (ex_callTy (hs _ _) (ea_cons (ex_var 7) ea_nil) hst rfl) (ex_callTy (cs_strx (C := cs 6) (msg := "no such orders") (s := .p 137) (F.q 6 (by decide)) (by kernel_rfl)) (ea_cons (ex_var 9) ea_nil) hst rfl) os_inS (by with_unfolding_all rfl)) (hno 6 (by decide)) rfl), fun q => absurd q Bool.false_ne_true⟩
        | 16, _ => exact ⟨_, gw_name 9, ei_one (et_to (et_cmp (ex_callTy (hs _ _) (ea_cons (ex_var 7) ea_nil) hst rfl) (ex_callTy (cs_strx (C := cs 14) (msg := "no such row") (s := .p 143) (F.q 14 (by decide)) (by kernel_rfl)) (ea_cons (ex_var 9) ea_nil) hst rfl) os_inS (by with_unfolding_all rfl)) (hno 14 (by decide)) rfl), fun q => absurd q Bool.false_ne_true⟩
        | 17, _ => exact ⟨_, gw_name 9, ei_one (et_to (et_cmp (ex_callTy (hs _ _) (ea_cons (ex_var 7) ea_nil) hst rfl) (ex_callTy (cs_strx (C := cs 17) (msg := "no such task") (s := .p 147) (F.q 17 (by decide)) (by kernel_rfl)) (ea_cons (ex_var 9) ea_nil) hst rfl) os_inS (by with_unfolding_all rfl)) (hno 17 (by decide)) rfl), fun q => absurd q Bool.false_ne_true⟩
        | 18, _ => exact ⟨_, gw_name 9, ei_one (et_to (et_cmp (ex_callTy (hs _ _) (ea_cons (ex_var 7) ea_nil) hst rfl) (ex_callTy (cs_strx (C := cs 13) (msg := "no such replay") (s := .p 153) (F.q 13 (by decide)) (by kernel_rfl)) (ea_cons (ex_var 9) ea_nil) hst rfl) os_inS (by with_unfolding_all rfl)) (hno 13 (by decide)) rfl), fun q => absurd q Bool.false_ne_true⟩
        | 19, _ => exact ⟨_, gw_name 9, ei_one (et_to (et_cmp (ex_callTy (hs _ _) (ea_cons (ex_var 7) ea_nil) hst rfl) (ex_callTy (cs_strx (C := cs 10) (msg := "no such prices") (s := .p 159) (F.q 10 (by decide)) (by kernel_rfl)) (ea_cons (ex_var 9) ea_nil) hst rfl) os_inS (by with_unfolding_all rfl)) (hno 10 (by decide)) rfl), fun q => absurd q Bool.false_ne_true⟩
        | 20, _ => exact ⟨_, gw_name 9, ei_one (et_to (et_cmp (ex_callTy (hs _ _) (ea_cons (ex_var 7) ea_nil) hst rfl) (ex_callTy (cs_strx (C := cs 16) (msg := "no such system") (s := .p 165) (F.q 16 (by decide)) (by kernel_rfl)) (ea_cons (ex_var 9) ea_nil) hst rfl) os_inS (by with_unfolding_all rfl)) (hno 16 (by decide)) rfl), fun q => absurd q Bool.false_ne_true⟩
        | 21, _ => exact ⟨_, gw_name 9, ei_one (et_to (et_cmp (ex_callTy (hs _ _) (ea_cons (ex_var 7) ea_nil) hst rfl) (ex_callTy (cs_strx (C := cs 21) (msg := "nothing so called") (s := .p 173) (F.q 21 (by decide)) (by kernel_rfl)) (ea_cons (ex_var 9) ea_nil) hst rfl) os_inS (by with_unfolding_all rfl)) (hno 21 (by decide)) rfl), fun q => absurd q Bool.false_ne_true⟩
        | 22, _ => exact ⟨_, gw_name 9, ei_one (et_to (et_cmp (ex_callTy (hs _ _) (ea_cons (ex_var 7) ea_nil) hst rfl) (ex_callTy (cs_strx (C := cs 22) (msg := "too many") (s := .p 175) (F.q 22 (by decide)) (by kernel_rfl)) (ea_cons (ex_var 9) ea_nil) hst rfl) os_inS (by with_unfolding_all rfl)) (hno 22 (by decide)) rfl), fun q => absurd q Bool.false_ne_true⟩
        | n + 23, hk => exact absurd hk (Nat.not_lt.mpr (Nat.le_add_left 23 n))
    · intro q
      cases q
    · intro _
      exact bx_nil (hN _ _ (by kernel_rfl) (by rw [List.length_append, List.length_append, len_W8]; exact Nat.le_of_ble_eq_true rfl) rfl)
end K

namespace K
open PySem PySem.Spec PyProof.Rows L2 DL DX
theorem ok_law {m : Ms} {f : Addr} {fd : FuncData} {cs : Nat → Addr} (FL : Fun m.K "law" "law" s_law f fd) (F : KF m cs bT) (FM : KM m cs) (no : ∀ j, j < 23 → PySem.W.findIn m.K (.ref (cs j)) (fldn.getD j "") = some none)
    (Fd : FnD m 1 "_law_draw" ["cell", "k"] Rdraw) (Fdig : FnD m 2 "_law_digit" ["state", "below"] Rdigit) (Fr : FnD m 4 "_law_right" ["thing"] Rright) (Fv : FnD m 3 "_law_valued" ["thing"] (Rvalued cs)) (Fp : FnD m 3 "_law_placed" ["thing"] (Rplaced cs)) (hen : m.mg "enumerate" = none) (hsum : m.mg "sum" = none) (hst : m.mg "str" = none) :
    FnOk m.P m.w m.K m.mg m.base CX0 5 f fd ["script"] (spLaw m.K) := by
  refine law_of FL sc_law (by decide) fun a ns h63 _ => ?_
  show BX (cL m a ns) [some (.v (.ref a)), none, none, none, none, none, none, none, none, none, none, none, none] [] (defBody s_law) _
  refine bx_cons (st_0 h63 Fd Fdig Fr hen hsum fun z1 z2 z3 z4 z5 => ?_)
  refine st_mid (z1 := z1) (z2 := z2) (z3 := z3) (z4 := z4) (z5 := z5) FM (st_fields F no ?_)
  show BX _ _ (W6 cs ns) _ _
  refine bx_cons ?_
  refine sx_for (ix_tup' (ss := ([.str "zqzq", .int (10 ^ (30 : Int).toNat), .int 70707] : List PyData).map S.d) (s := .d (.tuple [.str "zqzq", .int (10 ^ (30 : Int).toNat), .int 70707])) (M1 := W6 cs ns) (ex_to (ex_tup (ea_cons ex_str (ea_cons (ex_bin ex_int ex_int (os_pow ⟨by decide, by decide, by decide⟩)) (ea_cons ex_int ea_nil))) (Nat.le_of_ble_eq_true rfl)) rfl rfl) rfl) (fun k Γ M => ∃ z1 z2 z3 z4 z5 z6 z7 z8, Γ = [some (.v (.ref a)), z1, z2, z3, z4, z5, z6, z7, z8, none, none, none, none] ∧ M = W6 cs ns) ⟨_, Fg.refl _, _, _, _, _, _, _, _, _, rfl, rfl⟩ (fun k Γ M _ e => trivial) ?_ ?_
  · rintro k Γ M hk ⟨z1, z2, z3, z4, z5, z6, z7, z8, rfl, rfl⟩
    have hk' : k < 3 := hk
    clear hk
    match k, hk' with
    | 0, _ =>
      refine ⟨[some (.v (.ref a)), z1, z2, z3, z4, z5, z6, some (.d (.str "zqzq")), z8, none, none, none, none], W6 cs ns, gx_name 7, ?_⟩
      refine turn_last (x := .str "zqzq") (q := ("zqzq" : Str)) F FM Fv Fp hst (fun c M => cs_strS) (by decide +kernel) ?_
      intro Γ M' e0 e1 eΓ
      subst eΓ
      exact nxt_of (n := 57) (Γ' := [some (.v (.ref a)), none, none, none, none, none, none, none, none, none, none, none, none]) (M' := W6 cs ns) e1 e0 (lo_W6 cs ns) ⟨rfl, trivial⟩ ⟨trivial, trivial⟩ ⟨_, _, _, _, _, _, _, _, rfl, rfl⟩
    | 1, _ =>
      refine ⟨[some (.v (.ref a)), z1, z2, z3, z4, z5, z6, some (.d (.int (10 ^ (30 : Int).toNat))), z8, none, none, none, none], W6 cs ns, gx_name 7, ?_⟩
      refine turn_last (x := .int (10 ^ (30 : Int).toNat)) (q := (toString ((10 : Int) ^ (30 : Int).toNat) : String)) F FM Fv Fp hst (fun c M => cs_strI (by decide +kernel)) (by decide +kernel) ?_
      intro Γ M' e0 e1 eΓ
      subst eΓ
      exact nxt_of (n := 57) (Γ' := [some (.v (.ref a)), none, none, none, none, none, none, none, none, none, none, none, none]) (M' := W6 cs ns) e1 e0 (lo_W6 cs ns) ⟨rfl, trivial⟩ ⟨trivial, trivial⟩ ⟨_, _, _, _, _, _, _, _, rfl, rfl⟩
    | 2, _ =>
      refine ⟨[some (.v (.ref a)), z1, z2, z3, z4, z5, z6, some (.d (.int 70707)), z8, none, none, none, none], W6 cs ns, gx_name 7, ?_⟩
      refine turn_last (x := .int 70707) (q := (toString (70707 : Int) : String)) F FM Fv Fp hst (fun c M => cs_strI (by decide +kernel)) (by decide +kernel) ?_
      intro Γ M' e0 e1 eΓ
      subst eΓ
      exact nxt_of (n := 57) (Γ' := [some (.v (.ref a)), none, none, none, none, none, none, none, none, none, none, none, none]) (M' := W6 cs ns) e1 e0 (lo_W6 cs ns) ⟨rfl, trivial⟩ ⟨trivial, trivial⟩ ⟨_, _, _, _, _, _, _, _, rfl, rfl⟩
    | n + 3, hk => exact absurd hk (Nat.not_lt.mpr (Nat.le_add_left 3 n))
  · rintro Γ M ⟨z1, z2, z3, z4, z5, z6, z7, z8, rfl, rfl⟩
    refine bx_one ?_
    apply sx_ret
    · exact ex_bool
    · rfl
end K

namespace K
open PySem PySem.Spec PyProof.Rows L2 DL DX
theorem hasD_mk {m : Ms} {h : Heap} (X : m.K.In h) (G : h.Ns mainGlobals m.mg) {x : Str} {st : Stmt} {ps : List Str} {f : Addr} {oc : Value} {od an : Option Addr} {osl : Array (Option Value)} {kV doc pm cdv ct : Value} (a : PySem.W.nsIn m.K mainGlobals x = some (some (.ref f)))
    (l : m.K.lookup f = some ⟨oc, od, .func (PySem.W.fnOf x x (defArgs st) (defBody st) (defScope st) .none kV doc pm an cdv ct), osl⟩) (c : PySem.W.codeIn m.K cdv x = true) (k : PySem.W.keepIn m.K (.ref f) = true)
    (hb : ∀ (kV doc pm : Value) (an : Option Addr) (cdv ct : Value) (us : List Value), us.length = ps.length → bindArgs (PySem.W.fnOf x x (defArgs st) (defBody st) (defScope st) .none kV doc pm an cdv ct) ⟨us, []⟩ = pure (ps.zip us)) : HasD m x st ps :=
  ⟨f, _, PySem.W.mg_of X G a, fun_mk l c k, (fun_mk l c k).binds hb⟩
section
variable {m : Ms} {h : Heap} {x f msg pn bn qual : Str} {C fI : Addr} {B nI iI : String} {bmB : List Value} {st : Stmt} {oc : Value} {od an : Option Addr} {osl : Array (Option Value)} {dV kV doc pm cdv ct : Value} {p1 p2 p3 p4 p5 p6 p7 p8 p9 p10 : Pos} {j : Nat}
theorem xm_mk (X : m.K.In h) (G : h.Ns mainGlobals m.mg) (dfl : Bool) (aC : PySem.W.nsIn m.K mainGlobals x = some (some (.ref C))) (kC : PySem.W.keepIn m.K (.ref C) = true) (iC : PySem.W.findIn m.K (.ref C) "__init__" = some (some (.ref fI))) (tI : PySem.W.typeIn m.K (.ref fI) = some (.type "function"))
    (lI : m.K.lookup fI = some ⟨oc, od, .func (PySem.W.fnOf "__init__" qual (defArgs st) (defBody st) (defScope st) dV kV doc pm an cdv ct), osl⟩) (cI : PySem.W.codeIn m.K cdv qual = true) (kI : PySem.W.keepIn m.K (.ref fI) = true) (dB : He.dflB m.K dV (if dfl = true then [.non] else []) = true)
    (eb : ExcBaseFacts B nI iI bmB) (sb : StoreFacts B bmB "object.__setattr__" "object") (ei : PySem.W.excInitIn m.K C bmB nI = true) (eo : PySem.W.excOver m.K C bmB = true) (sa : PySem.W.findIn m.K (.ref C) "__setattr__" = some (some (.builtin "object.__setattr__"))) (hd : PySem.W.hasDictIn m.K C = true)
    (W : Bi m.K m.mg bn iI) (ht : PySem.W.takerIn m.K C f = some none) (S : FnScope ["self", pn] ["self", pn] (defScope st))
    (hB : defBody st = [.Expr (.Call (.Attribute (.Name bn p1) "__init__" p2) [.Name "self" p3, .Constant (.str msg) j p4] [] p5) p6, .Assign [.Attribute (.Name "self" p7) f p8] (.Name pn p9) p10])
    (hg : (defScope st).names.lookup bn = some .globalImplicit) (h1 : (defScope st).names.lookup ("self" : Str) = some .local) (h2 : (defScope st).names.lookup pn = some .local) (hh : PySem.W.handedIn (.builtin iI) = true) (hdb : (bn == ("__debug__" : Str)) = false)
    (hp1 : (pn == ("__debug__" : Str)) = false) (hp2 : (pn == ("__classdict__" : Str)) = false) (pl : Env → Sem Bool)
    (hc : ∀ env, eval (.Call (.Attribute (.Name bn p1) "__init__" p2) [.Name "self" p3, .Constant (.str msg) j p4] [] p5) env = (do
      let ov ← eval (.Name bn p1) env
      standAt p2.atName
      let (fn, first) ← holding [ov] (getMethod ov "__init__" (pl env))
      callWith p5 fn first (backTo p5 (starEach [.Name "self" p3, .Constant (.str msg) j p4] env)) (backToKw p5 (keywordEach [] env))))
    (bT : dfl = true → ∀ (T : Addr) (kV doc pm : Value) (an : Option Addr) (cdv ct e u d : Value),
      (∃ k, bindArgs (PySem.W.fnOf "__init__" qual (defArgs st) (defBody st) (defScope st) (.ref T) kV doc pm an cdv ct) ⟨[e, u], []⟩ = seqItems? (.ref T) >>= k ∧ k (some #[d]) = pure [(("self" : Str), e), (pn, u)]) ∧
      (∃ k, bindArgs (PySem.W.fnOf "__init__" qual (defArgs st) (defBody st) (defScope st) (.ref T) kV doc pm an cdv ct) ⟨[e], [(pn, u)]⟩ = seqItems? (.ref T) >>= k ∧ k (some #[d]) = pure [(("self" : Str), e), (pn, u)]) ∧
      (∃ k, bindArgs (PySem.W.fnOf "__init__" qual (defArgs st) (defBody st) (defScope st) (.ref T) kV doc pm an cdv ct) ⟨[e], []⟩ = seqItems? (.ref T) >>= k ∧ k (some #[d]) = pure [(("self" : Str), e), (pn, d)]))
    (bF : dfl = false → ∀ (kV doc pm : Value) (an : Option Addr) (cdv ct e u : Value), bindArgs (PySem.W.fnOf "__init__" qual (defArgs st) (defBody st) (defScope st) .none kV doc pm an cdv ct) ⟨[e, u], []⟩ = pure [(("self" : Str), e), (pn, u)] ∧ bindArgs (PySem.W.fnOf "__init__" qual (defArgs st) (defBody st) (defScope st) .none kV doc pm an cdv ct) ⟨[e], [(pn, u)]⟩ = pure [(("self" : Str), e), (pn, u)]) :
    XM m x C f msg pn dfl := by
  have F : FunD m.K "__init__" qual (defArgs st) (defBody st) (defScope st) (if dfl = true then [.non] else []) [] fI (PySem.W.fnOf "__init__" qual (defArgs st) (defBody st) (defScope st) dV kV doc pm an cdv ct) := ⟨⟨oc, od, dV, kV, doc, pm, an, cdv, ct, osl, rfl, lI, cI, He.dflB_ok dB, .inl rfl⟩, kI⟩
  have T : XcC m.K C B nI iI bmB := ⟨eb, sb, ei, eo, sa, hd, kC⟩
  have D := He.dflB_ok dB
  refine ⟨PySem.W.mg_of X G aC, kC, B, nI, iI, bmB, fI, _, T, iC, tI, ok_init F S hB T W ht hg h1 h2 hh hdb hp1 hp2 pl hc, ?_, ?_, ?_⟩
  all_goals cases dfl with
    | true =>
      rcases D with ⟨e, _⟩ | ⟨_, T0, o, its, n, rfl, lT, oT, rT⟩
      · cases e
      · cases rT with
        | cons r1 rn =>
          cases rn
          rename_i d
          obtain rfl : d = Value.none := r1
          first
            | (intro s e u XX
               obtain ⟨k, e1, e2⟩ := (bT rfl T0 kV doc pm an cdv ct (.ref e) u .none).1
               refine BindsTo.of_looks fun M => ?_
               rw [e1]
               exact looks_items XX lT oT (.of_pure e2))
            | (intro s e u XX
               obtain ⟨k, e1, e2⟩ := (bT rfl T0 kV doc pm an cdv ct (.ref e) u .none).2.1
               refine BindsTo.of_looks fun M => ?_
               rw [e1]
               exact looks_items XX lT oT (.of_pure e2))
            | (intro _ s e XX
               obtain ⟨k, e1, e2⟩ := (bT rfl T0 kV doc pm an cdv ct (.ref e) .none .none).2.2
               refine BindsTo.of_looks fun M => ?_
               rw [e1]
               exact looks_items XX lT oT (.of_pure e2))
    | false =>
      rcases D with ⟨_, rfl⟩ | ⟨e, _⟩
      · first
          | exact fun s e u XX => .of_eq (bF rfl kV doc pm an cdv ct (.ref e) u).1
          | exact fun s e u XX => .of_eq (bF rfl kV doc pm an cdv ct (.ref e) u).2
          | exact fun q => absurd q Bool.false_ne_true
      · exact absurd rfl e
end
end K

namespace K
open PySem PySem.Spec PyProof.Rows L2 DL DX
def xmB (K : PySem.W.Frag) (C fI : Addr) (dV : Value) (dfl : Bool) (nI : String) (bmB : List Value) (f : Str) : Bool :=
  PySem.W.keepIn K (.ref C) && (decide (PySem.W.typeIn K (.ref fI) = some (.type "function")) && (PySem.W.keepIn K (.ref fI) && (He.dflB K dV (if dfl = true then [.non] else []) && (PySem.W.excInitIn K C bmB nI && (PySem.W.excOver K C bmB && (decide (PySem.W.findIn K (.ref C) "__setattr__" = some (some (.builtin "object.__setattr__"))) && (PySem.W.hasDictIn K C && decide (PySem.W.takerIn K C f = some none))))))))
theorem band {a b : Bool} (h : (a && b) = true) : a = true ∧ b = true := Bool.and_eq_true_iff.mp h
theorem xmB_ok {K : PySem.W.Frag} {C fI : Addr} {dV : Value} {dfl : Bool} {nI : String} {bmB : List Value} {f : Str} (h : xmB K C fI dV dfl nI bmB f = true) : PySem.W.keepIn K (.ref C) = true ∧ PySem.W.typeIn K (.ref fI) = some (.type "function") ∧ PySem.W.keepIn K (.ref fI) = true ∧ He.dflB K dV (if dfl = true then [.non] else []) = true ∧ PySem.W.excInitIn K C bmB nI = true ∧ PySem.W.excOver K C bmB = true ∧
    PySem.W.findIn K (.ref C) "__setattr__" = some (some (.builtin "object.__setattr__")) ∧ PySem.W.hasDictIn K C = true ∧ PySem.W.takerIn K C f = some none := by
  obtain ⟨h1, h⟩ := band h
  obtain ⟨h2, h⟩ := band h
  obtain ⟨h3, h⟩ := band h
  obtain ⟨h4, h⟩ := band h
  obtain ⟨h5, h⟩ := band h
  obtain ⟨h6, h⟩ := band h
  obtain ⟨h7, h⟩ := band h
  obtain ⟨h8, h9⟩ := band h
  exact ⟨h1, of_decide_eq_true h2, h3, h4, h5, h6, of_decide_eq_true h7, h8, of_decide_eq_true h9⟩
def xqB (K : PySem.W.Frag) (D : Addr) (f : Str) : Bool :=
  decide (PySem.W.findIn K (.ref D) "__getattribute__" = some (some (.builtin "BaseException.__getattribute__"))) && (decide (PySem.W.findIn K (.ref D) "__getattr__" = some none) && (decide (PySem.W.subIn K (.ref D) (.type "BaseException") = some true) && (PySem.W.hasDictIn K D && (decide (PySem.W.findIn K (.ref D) "__class__" = some (some (.builtin "object.__class__"))) &&
    (decide (PySem.W.mroIn K D (.type "object") = some true) && (decide (PySem.W.findIn K (.ref D) "__str__" = some (some (.builtin "BaseException.__str__"))) && decide (PySem.W.findIn K (.ref D) f = some none)))))))
theorem xqB_ok {K : PySem.W.Frag} {D : Addr} {f : Str} (h : xqB K D f = true) : XqC K D ∧ PySem.W.findIn K (.ref D) f = some none := by
  obtain ⟨h1, h⟩ := band h
  obtain ⟨h2, h⟩ := band h
  obtain ⟨h3, h⟩ := band h
  obtain ⟨h4, h⟩ := band h
  obtain ⟨h5, h⟩ := band h
  obtain ⟨h6, h⟩ := band h
  obtain ⟨h7, h8⟩ := band h
  exact ⟨⟨of_decide_eq_true h1, of_decide_eq_true h2, of_decide_eq_true h3, h4, of_decide_eq_true h5, of_decide_eq_true h6, of_decide_eq_true h7⟩, of_decide_eq_true h8⟩
theorem all_mk {l : PySem.W.OpenLaw} {w : World} {K : PySem.W.Frag} {h : Heap} {mg : Str → Option Value} {fa : Addr} (X : K.In h) (G : h.Ns mainGlobals mg) (hfa : mg "law" = some (.ref fa))
    {f_mixed : Addr} {od_mixed an_mixed : Option Addr} {sl_mixed : Array (Option Value)} {oc_mixed kV_mixed dc_mixed pm_mixed cd_mixed ct_mixed : Value}
    {f_draw : Addr} {od_draw an_draw : Option Addr} {sl_draw : Array (Option Value)} {oc_draw kV_draw dc_draw pm_draw cd_draw ct_draw : Value}
    {f_digit : Addr} {od_digit an_digit : Option Addr} {sl_digit : Array (Option Value)} {oc_digit kV_digit dc_digit pm_digit cd_digit ct_digit : Value}
    {f_kinds : Addr} {od_kinds an_kinds : Option Addr} {sl_kinds : Array (Option Value)} {oc_kinds kV_kinds dc_kinds pm_kinds cd_kinds ct_kinds : Value}
    {f_valued : Addr} {od_valued an_valued : Option Addr} {sl_valued : Array (Option Value)} {oc_valued kV_valued dc_valued pm_valued cd_valued ct_valued : Value}
    {f_placed : Addr} {od_placed an_placed : Option Addr} {sl_placed : Array (Option Value)} {oc_placed kV_placed dc_placed pm_placed cd_placed ct_placed : Value}
    {f_right : Addr} {od_right an_right : Option Addr} {sl_right : Array (Option Value)} {oc_right kV_right dc_right pm_right cd_right ct_right : Value}
    {f_law : Addr} {od_law an_law : Option Addr} {sl_law : Array (Option Value)} {oc_law kV_law dc_law pm_law cd_law ct_law : Value}
    {C0 I0 : Addr} {od0 an0 : Option Addr} {sl0 : Array (Option Value)} {oc0 dV0 kV0 dc0 pm0 cd0 ct0 : Value}
    {C1 I1 : Addr} {od1 an1 : Option Addr} {sl1 : Array (Option Value)} {oc1 dV1 kV1 dc1 pm1 cd1 ct1 : Value}
    {C2 I2 : Addr} {od2 an2 : Option Addr} {sl2 : Array (Option Value)} {oc2 dV2 kV2 dc2 pm2 cd2 ct2 : Value}
    {C3 I3 : Addr} {od3 an3 : Option Addr} {sl3 : Array (Option Value)} {oc3 dV3 kV3 dc3 pm3 cd3 ct3 : Value}
    {C4 I4 : Addr} {od4 an4 : Option Addr} {sl4 : Array (Option Value)} {oc4 dV4 kV4 dc4 pm4 cd4 ct4 : Value}
    {C5 I5 : Addr} {od5 an5 : Option Addr} {sl5 : Array (Option Value)} {oc5 dV5 kV5 dc5 pm5 cd5 ct5 : Value}
    {C6 I6 : Addr} {od6 an6 : Option Addr} {sl6 : Array (Option Value)} {oc6 dV6 kV6 dc6 pm6 cd6 ct6 : Value}
    {C7 I7 : Addr} {od7 an7 : Option Addr} {sl7 : Array (Option Value)} {oc7 dV7 kV7 dc7 pm7 cd7 ct7 : Value}
    {C8 I8 : Addr} {od8 an8 : Option Addr} {sl8 : Array (Option Value)} {oc8 dV8 kV8 dc8 pm8 cd8 ct8 : Value}
    {C9 I9 : Addr} {od9 an9 : Option Addr} {sl9 : Array (Option Value)} {oc9 dV9 kV9 dc9 pm9 cd9 ct9 : Value}
    {C10 I10 : Addr} {od10 an10 : Option Addr} {sl10 : Array (Option Value)} {oc10 dV10 kV10 dc10 pm10 cd10 ct10 : Value}
    {C11 I11 : Addr} {od11 an11 : Option Addr} {sl11 : Array (Option Value)} {oc11 dV11 kV11 dc11 pm11 cd11 ct11 : Value}
    {C12 I12 : Addr} {od12 an12 : Option Addr} {sl12 : Array (Option Value)} {oc12 dV12 kV12 dc12 pm12 cd12 ct12 : Value}
    {C13 I13 : Addr} {od13 an13 : Option Addr} {sl13 : Array (Option Value)} {oc13 dV13 kV13 dc13 pm13 cd13 ct13 : Value}
    {C14 I14 : Addr} {od14 an14 : Option Addr} {sl14 : Array (Option Value)} {oc14 dV14 kV14 dc14 pm14 cd14 ct14 : Value}
    {C15 I15 : Addr} {od15 an15 : Option Addr} {sl15 : Array (Option Value)} {oc15 dV15 kV15 dc15 pm15 cd15 ct15 : Value}
    {C16 I16 : Addr} {od16 an16 : Option Addr} {sl16 : Array (Option Value)} {oc16 dV16 kV16 dc16 pm16 cd16 ct16 : Value}
    {C17 I17 : Addr} {od17 an17 : Option Addr} {sl17 : Array (Option Value)} {oc17 dV17 kV17 dc17 pm17 cd17 ct17 : Value}
    {C18 I18 : Addr} {od18 an18 : Option Addr} {sl18 : Array (Option Value)} {oc18 dV18 kV18 dc18 pm18 cd18 ct18 : Value}
    {C19 I19 : Addr} {od19 an19 : Option Addr} {sl19 : Array (Option Value)} {oc19 dV19 kV19 dc19 pm19 cd19 ct19 : Value}
    {C20 I20 : Addr} {od20 an20 : Option Addr} {sl20 : Array (Option Value)} {oc20 dV20 kV20 dc20 pm20 cd20 ct20 : Value}
    {C21 I21 : Addr} {od21 an21 : Option Addr} {sl21 : Array (Option Value)} {oc21 dV21 kV21 dc21 pm21 cd21 ct21 : Value}
    {C22 I22 : Addr} {od22 an22 : Option Addr} {sl22 : Array (Option Value)} {oc22 dV22 kV22 dc22 pm22 cd22 ct22 : Value}
    {C23 : Addr}
    (a_mixed : PySem.W.nsIn K mainGlobals "_law_mixed" = some (some (.ref f_mixed)))
    (l_mixed : K.lookup f_mixed = some ⟨oc_mixed, od_mixed, .func (PySem.W.fnOf "_law_mixed" "_law_mixed" (defArgs s_mixed) (defBody s_mixed) (defScope s_mixed) .none kV_mixed dc_mixed pm_mixed an_mixed cd_mixed ct_mixed), sl_mixed⟩)
    (c_mixed : PySem.W.codeIn K cd_mixed "_law_mixed" = true)
    (k_mixed : PySem.W.keepIn K (.ref f_mixed) = true)
    (a_draw : PySem.W.nsIn K mainGlobals "_law_draw" = some (some (.ref f_draw)))
    (l_draw : K.lookup f_draw = some ⟨oc_draw, od_draw, .func (PySem.W.fnOf "_law_draw" "_law_draw" (defArgs s_draw) (defBody s_draw) (defScope s_draw) .none kV_draw dc_draw pm_draw an_draw cd_draw ct_draw), sl_draw⟩)
    (c_draw : PySem.W.codeIn K cd_draw "_law_draw" = true)
    (k_draw : PySem.W.keepIn K (.ref f_draw) = true)
    (a_digit : PySem.W.nsIn K mainGlobals "_law_digit" = some (some (.ref f_digit)))
    (l_digit : K.lookup f_digit = some ⟨oc_digit, od_digit, .func (PySem.W.fnOf "_law_digit" "_law_digit" (defArgs s_digit) (defBody s_digit) (defScope s_digit) .none kV_digit dc_digit pm_digit an_digit cd_digit ct_digit), sl_digit⟩)
    (c_digit : PySem.W.codeIn K cd_digit "_law_digit" = true)
    (k_digit : PySem.W.keepIn K (.ref f_digit) = true)
    (a_kinds : PySem.W.nsIn K mainGlobals "_law_kinds" = some (some (.ref f_kinds)))
    (l_kinds : K.lookup f_kinds = some ⟨oc_kinds, od_kinds, .func (PySem.W.fnOf "_law_kinds" "_law_kinds" (defArgs s_kinds) (defBody s_kinds) (defScope s_kinds) .none kV_kinds dc_kinds pm_kinds an_kinds cd_kinds ct_kinds), sl_kinds⟩)
    (c_kinds : PySem.W.codeIn K cd_kinds "_law_kinds" = true)
    (k_kinds : PySem.W.keepIn K (.ref f_kinds) = true)
    (a_valued : PySem.W.nsIn K mainGlobals "_law_valued" = some (some (.ref f_valued)))
    (l_valued : K.lookup f_valued = some ⟨oc_valued, od_valued, .func (PySem.W.fnOf "_law_valued" "_law_valued" (defArgs s_valued) (defBody s_valued) (defScope s_valued) .none kV_valued dc_valued pm_valued an_valued cd_valued ct_valued), sl_valued⟩)
    (c_valued : PySem.W.codeIn K cd_valued "_law_valued" = true)
    (k_valued : PySem.W.keepIn K (.ref f_valued) = true)
    (a_placed : PySem.W.nsIn K mainGlobals "_law_placed" = some (some (.ref f_placed)))
    (l_placed : K.lookup f_placed = some ⟨oc_placed, od_placed, .func (PySem.W.fnOf "_law_placed" "_law_placed" (defArgs s_placed) (defBody s_placed) (defScope s_placed) .none kV_placed dc_placed pm_placed an_placed cd_placed ct_placed), sl_placed⟩)
    (c_placed : PySem.W.codeIn K cd_placed "_law_placed" = true)
    (k_placed : PySem.W.keepIn K (.ref f_placed) = true)
    (a_right : PySem.W.nsIn K mainGlobals "_law_right" = some (some (.ref f_right)))
    (l_right : K.lookup f_right = some ⟨oc_right, od_right, .func (PySem.W.fnOf "_law_right" "_law_right" (defArgs s_right) (defBody s_right) (defScope s_right) .none kV_right dc_right pm_right an_right cd_right ct_right), sl_right⟩)
    (c_right : PySem.W.codeIn K cd_right "_law_right" = true)
    (k_right : PySem.W.keepIn K (.ref f_right) = true)
    (a_law : PySem.W.nsIn K mainGlobals "law" = some (some (.ref f_law)))
    (l_law : K.lookup f_law = some ⟨oc_law, od_law, .func (PySem.W.fnOf "law" "law" (defArgs s_law) (defBody s_law) (defScope s_law) .none kV_law dc_law pm_law an_law cd_law ct_law), sl_law⟩)
    (c_law : PySem.W.codeIn K cd_law "law" = true)
    (k_law : PySem.W.keepIn K (.ref f_law) = true)
    (aC0 : PySem.W.nsIn K mainGlobals "BadColours" = some (some (.ref C0)))
    (iC0 : PySem.W.findIn K (.ref C0) "__init__" = some (some (.ref I0)))
    (lI0 : K.lookup I0 = some ⟨oc0, od0, .func (PySem.W.fnOf "__init__" "BadColours.__init__" (defArgs (inClass (top 11) 0)) (defBody (inClass (top 11) 0)) (defScope (inClass (top 11) 0)) dV0 kV0 dc0 pm0 an0 cd0 ct0), sl0⟩)
    (cI0 : PySem.W.codeIn K cd0 "BadColours.__init__" = true)
    (hx0 : xmB K C0 I0 dV0 true "ValueError.__new__" [.type "ValueError", .type "Exception", .type "BaseException", .type "object"] "value" = true)
    (aC1 : PySem.W.nsIn K mainGlobals "BadDeed" = some (some (.ref C1)))
    (iC1 : PySem.W.findIn K (.ref C1) "__init__" = some (some (.ref I1)))
    (lI1 : K.lookup I1 = some ⟨oc1, od1, .func (PySem.W.fnOf "__init__" "BadDeed.__init__" (defArgs (inClass (top 14) 0)) (defBody (inClass (top 14) 0)) (defScope (inClass (top 14) 0)) dV1 kV1 dc1 pm1 an1 cd1 ct1), sl1⟩)
    (cI1 : PySem.W.codeIn K cd1 "BadDeed.__init__" = true)
    (hx1 : xmB K C1 I1 dV1 true "ValueError.__new__" [.type "ValueError", .type "Exception", .type "BaseException", .type "object"] "place" = true)
    (aC2 : PySem.W.nsIn K mainGlobals "BadGlue" = some (some (.ref C2)))
    (iC2 : PySem.W.findIn K (.ref C2) "__init__" = some (some (.ref I2)))
    (lI2 : K.lookup I2 = some ⟨oc2, od2, .func (PySem.W.fnOf "__init__" "BadGlue.__init__" (defArgs (inClass (top 9) 0)) (defBody (inClass (top 9) 0)) (defScope (inClass (top 9) 0)) dV2 kV2 dc2 pm2 an2 cd2 ct2), sl2⟩)
    (cI2 : PySem.W.codeIn K cd2 "BadGlue.__init__" = true)
    (hx2 : xmB K C2 I2 dV2 true "ValueError.__new__" [.type "ValueError", .type "Exception", .type "BaseException", .type "object"] "place" = true)
    (aC3 : PySem.W.nsIn K mainGlobals "BadLadder" = some (some (.ref C3)))
    (iC3 : PySem.W.findIn K (.ref C3) "__init__" = some (some (.ref I3)))
    (lI3 : K.lookup I3 = some ⟨oc3, od3, .func (PySem.W.fnOf "__init__" "BadLadder.__init__" (defArgs (inClass (top 6) 0)) (defBody (inClass (top 6) 0)) (defScope (inClass (top 6) 0)) dV3 kV3 dc3 pm3 an3 cd3 ct3), sl3⟩)
    (cI3 : PySem.W.codeIn K cd3 "BadLadder.__init__" = true)
    (hx3 : xmB K C3 I3 dV3 true "ValueError.__new__" [.type "ValueError", .type "Exception", .type "BaseException", .type "object"] "place" = true)
    (aC4 : PySem.W.nsIn K mainGlobals "BadMacros" = some (some (.ref C4)))
    (iC4 : PySem.W.findIn K (.ref C4) "__init__" = some (some (.ref I4)))
    (lI4 : K.lookup I4 = some ⟨oc4, od4, .func (PySem.W.fnOf "__init__" "BadMacros.__init__" (defArgs (inClass (top 16) 0)) (defBody (inClass (top 16) 0)) (defScope (inClass (top 16) 0)) dV4 kV4 dc4 pm4 an4 cd4 ct4), sl4⟩)
    (cI4 : PySem.W.codeIn K cd4 "BadMacros.__init__" = true)
    (hx4 : xmB K C4 I4 dV4 true "ValueError.__new__" [.type "ValueError", .type "Exception", .type "BaseException", .type "object"] "place" = true)
    (aC5 : PySem.W.nsIn K mainGlobals "BadNumber" = some (some (.ref C5)))
    (iC5 : PySem.W.findIn K (.ref C5) "__init__" = some (some (.ref I5)))
    (lI5 : K.lookup I5 = some ⟨oc5, od5, .func (PySem.W.fnOf "__init__" "BadNumber.__init__" (defArgs (inClass (top 13) 0)) (defBody (inClass (top 13) 0)) (defScope (inClass (top 13) 0)) dV5 kV5 dc5 pm5 an5 cd5 ct5), sl5⟩)
    (cI5 : PySem.W.codeIn K cd5 "BadNumber.__init__" = true)
    (hx5 : xmB K C5 I5 dV5 true "ValueError.__new__" [.type "ValueError", .type "Exception", .type "BaseException", .type "object"] "value" = true)
    (aC6 : PySem.W.nsIn K mainGlobals "BadOrders" = some (some (.ref C6)))
    (iC6 : PySem.W.findIn K (.ref C6) "__init__" = some (some (.ref I6)))
    (lI6 : K.lookup I6 = some ⟨oc6, od6, .func (PySem.W.fnOf "__init__" "BadOrders.__init__" (defArgs (inClass (top 17) 0)) (defBody (inClass (top 17) 0)) (defScope (inClass (top 17) 0)) dV6 kV6 dc6 pm6 an6 cd6 ct6), sl6⟩)
    (cI6 : PySem.W.codeIn K cd6 "BadOrders.__init__" = true)
    (hx6 : xmB K C6 I6 dV6 true "ValueError.__new__" [.type "ValueError", .type "Exception", .type "BaseException", .type "object"] "place" = true)
    (aC7 : PySem.W.nsIn K mainGlobals "BadPaper" = some (some (.ref C7)))
    (iC7 : PySem.W.findIn K (.ref C7) "__init__" = some (some (.ref I7)))
    (lI7 : K.lookup I7 = some ⟨oc7, od7, .func (PySem.W.fnOf "__init__" "BadPaper.__init__" (defArgs (inClass (top 7) 0)) (defBody (inClass (top 7) 0)) (defScope (inClass (top 7) 0)) dV7 kV7 dc7 pm7 an7 cd7 ct7), sl7⟩)
    (cI7 : PySem.W.codeIn K cd7 "BadPaper.__init__" = true)
    (hx7 : xmB K C7 I7 dV7 true "ValueError.__new__" [.type "ValueError", .type "Exception", .type "BaseException", .type "object"] "place" = true)
    (aC8 : PySem.W.nsIn K mainGlobals "BadPerm" = some (some (.ref C8)))
    (iC8 : PySem.W.findIn K (.ref C8) "__init__" = some (some (.ref I8)))
    (lI8 : K.lookup I8 = some ⟨oc8, od8, .func (PySem.W.fnOf "__init__" "BadPerm.__init__" (defArgs (inClass (top 2) 0)) (defBody (inClass (top 2) 0)) (defScope (inClass (top 2) 0)) dV8 kV8 dc8 pm8 an8 cd8 ct8), sl8⟩)
    (cI8 : PySem.W.codeIn K cd8 "BadPerm.__init__" = true)
    (hx8 : xmB K C8 I8 dV8 true "ValueError.__new__" [.type "ValueError", .type "Exception", .type "BaseException", .type "object"] "value" = true)
    (aC9 : PySem.W.nsIn K mainGlobals "BadPieces" = some (some (.ref C9)))
    (iC9 : PySem.W.findIn K (.ref C9) "__init__" = some (some (.ref I9)))
    (lI9 : K.lookup I9 = some ⟨oc9, od9, .func (PySem.W.fnOf "__init__" "BadPieces.__init__" (defArgs (inClass (top 8) 0)) (defBody (inClass (top 8) 0)) (defScope (inClass (top 8) 0)) dV9 kV9 dc9 pm9 an9 cd9 ct9), sl9⟩)
    (cI9 : PySem.W.codeIn K cd9 "BadPieces.__init__" = true)
    (hx9 : xmB K C9 I9 dV9 true "ValueError.__new__" [.type "ValueError", .type "Exception", .type "BaseException", .type "object"] "place" = true)
    (aC10 : PySem.W.nsIn K mainGlobals "BadPrices" = some (some (.ref C10)))
    (iC10 : PySem.W.findIn K (.ref C10) "__init__" = some (some (.ref I10)))
    (lI10 : K.lookup I10 = some ⟨oc10, od10, .func (PySem.W.fnOf "__init__" "BadPrices.__init__" (defArgs (inClass (top 22) 0)) (defBody (inClass (top 22) 0)) (defScope (inClass (top 22) 0)) dV10 kV10 dc10 pm10 an10 cd10 ct10), sl10⟩)
    (cI10 : PySem.W.codeIn K cd10 "BadPrices.__init__" = true)
    (hx10 : xmB K C10 I10 dV10 true "ValueError.__new__" [.type "ValueError", .type "Exception", .type "BaseException", .type "object"] "place" = true)
    (aC11 : PySem.W.nsIn K mainGlobals "BadPuzzle" = some (some (.ref C11)))
    (iC11 : PySem.W.findIn K (.ref C11) "__init__" = some (some (.ref I11)))
    (lI11 : K.lookup I11 = some ⟨oc11, od11, .func (PySem.W.fnOf "__init__" "BadPuzzle.__init__" (defArgs (inClass (top 3) 0)) (defBody (inClass (top 3) 0)) (defScope (inClass (top 3) 0)) dV11 kV11 dc11 pm11 an11 cd11 ct11), sl11⟩)
    (cI11 : PySem.W.codeIn K cd11 "BadPuzzle.__init__" = true)
    (hx11 : xmB K C11 I11 dV11 true "ValueError.__new__" [.type "ValueError", .type "Exception", .type "BaseException", .type "object"] "place" = true)
    (aC12 : PySem.W.nsIn K mainGlobals "BadRecipe" = some (some (.ref C12)))
    (iC12 : PySem.W.findIn K (.ref C12) "__init__" = some (some (.ref I12)))
    (lI12 : K.lookup I12 = some ⟨oc12, od12, .func (PySem.W.fnOf "__init__" "BadRecipe.__init__" (defArgs (inClass (top 5) 0)) (defBody (inClass (top 5) 0)) (defScope (inClass (top 5) 0)) dV12 kV12 dc12 pm12 an12 cd12 ct12), sl12⟩)
    (cI12 : PySem.W.codeIn K cd12 "BadRecipe.__init__" = true)
    (hx12 : xmB K C12 I12 dV12 true "ValueError.__new__" [.type "ValueError", .type "Exception", .type "BaseException", .type "object"] "place" = true)
    (aC13 : PySem.W.nsIn K mainGlobals "BadReplay" = some (some (.ref C13)))
    (iC13 : PySem.W.findIn K (.ref C13) "__init__" = some (some (.ref I13)))
    (lI13 : K.lookup I13 = some ⟨oc13, od13, .func (PySem.W.fnOf "__init__" "BadReplay.__init__" (defArgs (inClass (top 19) 0)) (defBody (inClass (top 19) 0)) (defScope (inClass (top 19) 0)) dV13 kV13 dc13 pm13 an13 cd13 ct13), sl13⟩)
    (cI13 : PySem.W.codeIn K cd13 "BadReplay.__init__" = true)
    (hx13 : xmB K C13 I13 dV13 true "ValueError.__new__" [.type "ValueError", .type "Exception", .type "BaseException", .type "object"] "place" = true)
    (aC14 : PySem.W.nsIn K mainGlobals "BadRow" = some (some (.ref C14)))
    (iC14 : PySem.W.findIn K (.ref C14) "__init__" = some (some (.ref I14)))
    (lI14 : K.lookup I14 = some ⟨oc14, od14, .func (PySem.W.fnOf "__init__" "BadRow.__init__" (defArgs (inClass (top 18) 0)) (defBody (inClass (top 18) 0)) (defScope (inClass (top 18) 0)) dV14 kV14 dc14 pm14 an14 cd14 ct14), sl14⟩)
    (cI14 : PySem.W.codeIn K cd14 "BadRow.__init__" = true)
    (hx14 : xmB K C14 I14 dV14 true "ValueError.__new__" [.type "ValueError", .type "Exception", .type "BaseException", .type "object"] "place" = true)
    (aC15 : PySem.W.nsIn K mainGlobals "BadStages" = some (some (.ref C15)))
    (iC15 : PySem.W.findIn K (.ref C15) "__init__" = some (some (.ref I15)))
    (lI15 : K.lookup I15 = some ⟨oc15, od15, .func (PySem.W.fnOf "__init__" "BadStages.__init__" (defArgs (inClass (top 15) 0)) (defBody (inClass (top 15) 0)) (defScope (inClass (top 15) 0)) dV15 kV15 dc15 pm15 an15 cd15 ct15), sl15⟩)
    (cI15 : PySem.W.codeIn K cd15 "BadStages.__init__" = true)
    (hx15 : xmB K C15 I15 dV15 true "ValueError.__new__" [.type "ValueError", .type "Exception", .type "BaseException", .type "object"] "place" = true)
    (aC16 : PySem.W.nsIn K mainGlobals "BadSystem" = some (some (.ref C16)))
    (iC16 : PySem.W.findIn K (.ref C16) "__init__" = some (some (.ref I16)))
    (lI16 : K.lookup I16 = some ⟨oc16, od16, .func (PySem.W.fnOf "__init__" "BadSystem.__init__" (defArgs (inClass (top 21) 0)) (defBody (inClass (top 21) 0)) (defScope (inClass (top 21) 0)) dV16 kV16 dc16 pm16 an16 cd16 ct16), sl16⟩)
    (cI16 : PySem.W.codeIn K cd16 "BadSystem.__init__" = true)
    (hx16 : xmB K C16 I16 dV16 true "ValueError.__new__" [.type "ValueError", .type "Exception", .type "BaseException", .type "object"] "place" = true)
    (aC17 : PySem.W.nsIn K mainGlobals "BadTask" = some (some (.ref C17)))
    (iC17 : PySem.W.findIn K (.ref C17) "__init__" = some (some (.ref I17)))
    (lI17 : K.lookup I17 = some ⟨oc17, od17, .func (PySem.W.fnOf "__init__" "BadTask.__init__" (defArgs (inClass (top 20) 0)) (defBody (inClass (top 20) 0)) (defScope (inClass (top 20) 0)) dV17 kV17 dc17 pm17 an17 cd17 ct17), sl17⟩)
    (cI17 : PySem.W.codeIn K cd17 "BadTask.__init__" = true)
    (hx17 : xmB K C17 I17 dV17 true "ValueError.__new__" [.type "ValueError", .type "Exception", .type "BaseException", .type "object"] "place" = true)
    (aC18 : PySem.W.nsIn K mainGlobals "BadText" = some (some (.ref C18)))
    (iC18 : PySem.W.findIn K (.ref C18) "__init__" = some (some (.ref I18)))
    (lI18 : K.lookup I18 = some ⟨oc18, od18, .func (PySem.W.fnOf "__init__" "BadText.__init__" (defArgs (inClass (top 12) 0)) (defBody (inClass (top 12) 0)) (defScope (inClass (top 12) 0)) dV18 kV18 dc18 pm18 an18 cd18 ct18), sl18⟩)
    (cI18 : PySem.W.codeIn K cd18 "BadText.__init__" = true)
    (hx18 : xmB K C18 I18 dV18 true "ValueError.__new__" [.type "ValueError", .type "Exception", .type "BaseException", .type "object"] "place" = true)
    (aC19 : PySem.W.nsIn K mainGlobals "BadWeb" = some (some (.ref C19)))
    (iC19 : PySem.W.findIn K (.ref C19) "__init__" = some (some (.ref I19)))
    (lI19 : K.lookup I19 = some ⟨oc19, od19, .func (PySem.W.fnOf "__init__" "BadWeb.__init__" (defArgs (inClass (top 10) 0)) (defBody (inClass (top 10) 0)) (defScope (inClass (top 10) 0)) dV19 kV19 dc19 pm19 an19 cd19 ct19), sl19⟩)
    (cI19 : PySem.W.codeIn K cd19 "BadWeb.__init__" = true)
    (hx19 : xmB K C19 I19 dV19 true "ValueError.__new__" [.type "ValueError", .type "Exception", .type "BaseException", .type "object"] "place" = true)
    (aC20 : PySem.W.nsIn K mainGlobals "BadWord" = some (some (.ref C20)))
    (iC20 : PySem.W.findIn K (.ref C20) "__init__" = some (some (.ref I20)))
    (lI20 : K.lookup I20 = some ⟨oc20, od20, .func (PySem.W.fnOf "__init__" "BadWord.__init__" (defArgs (inClass (top 4) 0)) (defBody (inClass (top 4) 0)) (defScope (inClass (top 4) 0)) dV20 kV20 dc20 pm20 an20 cd20 ct20), sl20⟩)
    (cI20 : PySem.W.codeIn K cd20 "BadWord.__init__" = true)
    (hx20 : xmB K C20 I20 dV20 true "ValueError.__new__" [.type "ValueError", .type "Exception", .type "BaseException", .type "object"] "place" = true)
    (aC21 : PySem.W.nsIn K mainGlobals "NoSuch" = some (some (.ref C21)))
    (iC21 : PySem.W.findIn K (.ref C21) "__init__" = some (some (.ref I21)))
    (lI21 : K.lookup I21 = some ⟨oc21, od21, .func (PySem.W.fnOf "__init__" "NoSuch.__init__" (defArgs (inClass (top 24) 0)) (defBody (inClass (top 24) 0)) (defScope (inClass (top 24) 0)) dV21 kV21 dc21 pm21 an21 cd21 ct21), sl21⟩)
    (cI21 : PySem.W.codeIn K cd21 "NoSuch.__init__" = true)
    (hx21 : xmB K C21 I21 dV21 true "LookupError.__new__" [.type "LookupError", .type "Exception", .type "BaseException", .type "object"] "value" = true)
    (aC22 : PySem.W.nsIn K mainGlobals "TooMany" = some (some (.ref C22)))
    (iC22 : PySem.W.findIn K (.ref C22) "__init__" = some (some (.ref I22)))
    (lI22 : K.lookup I22 = some ⟨oc22, od22, .func (PySem.W.fnOf "__init__" "TooMany.__init__" (defArgs (inClass (top 23) 0)) (defBody (inClass (top 23) 0)) (defScope (inClass (top 23) 0)) dV22 kV22 dc22 pm22 an22 cd22 ct22), sl22⟩)
    (cI22 : PySem.W.codeIn K cd22 "TooMany.__init__" = true)
    (hx22 : xmB K C22 I22 dV22 false "OverflowError.__new__" [.type "OverflowError", .type "ArithmeticError", .type "Exception", .type "BaseException", .type "object"] "most" = true)
    (aC23 : PySem.W.nsIn K mainGlobals "HomeError" = some (some (.ref C23)))
    (hH1 : PySem.W.readsIn K C23 (.type "type") = true)
    (hH2 : PySem.W.specialIn K (.ref C23) "__getattribute__" = some (some (.builtin "type.__getattribute__")))
    (hH3 : PySem.W.findCls K (.ref C23) (.type "type") "__init__" = some (.val (.builtin "ValueError.__init__")))
    (hL : PySem.W.findCls K (.type "LookupError") (.type "type") "__init__" = some (.val (.builtin "LookupError.__init__")))
    (hO : PySem.W.findCls K (.type "OverflowError") (.type "type") "__init__" = some (.val (.builtin "OverflowError.__init__")))
    (hq : ((List.range 23).all fun i => xqB K ((fun j => ([C0, C1, C2, C3, C4, C5, C6, C7, C8, C9, C10, C11, C12, C13, C14, C15, C16, C17, C18, C19, C20, C21, C22, C23] : List Addr).getD j 0) i) (fldn.getD i "")) = true)
    (hk : ((List.range 23).all fun i => (List.range 27).all fun j => decide (PySem.W.kitOne K (.ref ((fun j => ([C0, C1, C2, C3, C4, C5, C6, C7, C8, C9, C10, C11, C12, C13, C14, C15, C16, C17, C18, C19, C20, C21, C22, C23] : List Addr).getD j 0) i)) (tgU (fun j => ([C0, C1, C2, C3, C4, C5, C6, C7, C8, C9, C10, C11, C12, C13, C14, C15, C16, C17, C18, C19, C20, C21, C22, C23] : List Addr).getD j 0) j) = some (bT i j))) = true)
    (hg1 : PySem.W.specialIn K (.builtin "object.__class__") "__get__" = some (some (.builtin "getset_descriptor.__get__")))
    (hg2 : PySem.W.takesIn K (.builtin "object.__class__") = some true)
    (z_isinstance : PySem.W.nsIn K mainGlobals "isinstance" = some none)
    (z_ValueError : PySem.W.nsIn K mainGlobals "ValueError" = some none)
    (z_LookupError : PySem.W.nsIn K mainGlobals "LookupError" = some none)
    (z_OverflowError : PySem.W.nsIn K mainGlobals "OverflowError" = some none)
    (z_enumerate : PySem.W.nsIn K mainGlobals "enumerate" = some none)
    (z_sum : PySem.W.nsIn K mainGlobals "sum" = some none)
    (z_str : PySem.W.nsIn K mainGlobals "str" = some none)
    (z_range : PySem.W.nsIn K mainGlobals "range" = some none)
    : ∃ fd : FuncData, (∀ (s : Shared) (v : Value), BindsTo s fd ⟨[v], []⟩ [("script", v)]) ∧ ∀ base : Heap, K.In base → base.Ns mainGlobals mg → FnOk l.prog w K mg base CX0 5 fa fd ["script"] (spLaw K) := by
  have e := hfa.symm.trans (PySem.W.mg_of X G a_law)
  cases e
  refine ⟨PySem.W.fnOf "law" "law" (defArgs s_law) (defBody s_law) (defScope s_law) .none kV_law dc_law pm_law an_law cd_law ct_law, fun s v => .of_eq rfl, fun base _ _ => ?_⟩
  obtain ⟨m, em⟩ : ∃ m : Ms, m = ⟨l.prog, w, K, mg, base⟩ := ⟨_, rfl⟩
  show FnOk (⟨l.prog, w, K, mg, base⟩ : Ms).P (⟨l.prog, w, K, mg, base⟩ : Ms).w (⟨l.prog, w, K, mg, base⟩ : Ms).K (⟨l.prog, w, K, mg, base⟩ : Ms).mg (⟨l.prog, w, K, mg, base⟩ : Ms).base CX0 5 _ _ _ _
  have h_mixed : HasD ⟨l.prog, w, K, mg, base⟩ "_law_mixed" s_mixed ["cell", "k"] := hasD_mk X G a_mixed l_mixed c_mixed k_mixed (fun _ _ _ _ _ _ us hl => match us, hl with | [_, _], _ => rfl)
  have h_draw : HasD ⟨l.prog, w, K, mg, base⟩ "_law_draw" s_draw ["cell", "k"] := hasD_mk X G a_draw l_draw c_draw k_draw (fun _ _ _ _ _ _ us hl => match us, hl with | [_, _], _ => rfl)
  have h_digit : HasD ⟨l.prog, w, K, mg, base⟩ "_law_digit" s_digit ["state", "below"] := hasD_mk X G a_digit l_digit c_digit k_digit (fun _ _ _ _ _ _ us hl => match us, hl with | [_, _], _ => rfl)
  have h_kinds : HasD ⟨l.prog, w, K, mg, base⟩ "_law_kinds" s_kinds ["e"] := hasD_mk X G a_kinds l_kinds c_kinds k_kinds (fun _ _ _ _ _ _ us hl => match us, hl with | [_], _ => rfl)
  have h_valued : HasD ⟨l.prog, w, K, mg, base⟩ "_law_valued" s_valued ["thing"] := hasD_mk X G a_valued l_valued c_valued k_valued (fun _ _ _ _ _ _ us hl => match us, hl with | [_], _ => rfl)
  have h_placed : HasD ⟨l.prog, w, K, mg, base⟩ "_law_placed" s_placed ["thing"] := hasD_mk X G a_placed l_placed c_placed k_placed (fun _ _ _ _ _ _ us hl => match us, hl with | [_], _ => rfl)
  have h_right : HasD ⟨l.prog, w, K, mg, base⟩ "_law_right" s_right ["thing"] := hasD_mk X G a_right l_right c_right k_right (fun _ _ _ _ _ _ us hl => match us, hl with | [_], _ => rfl)
  have WH : Bi K mg "HomeError" "ValueError.__init__" := ⟨.inl ⟨C23, PySem.W.mg_of X G aC23, hH1, hH2, hH3⟩⟩
  have WL : Bi K mg "LookupError" "LookupError.__init__" := ⟨.inr ⟨"LookupError", PySem.W.mg_none_of X G z_LookupError, by decide, rfl, by kernel_rfl, by decide +kernel, hL⟩⟩
  have WO : Bi K mg "OverflowError" "OverflowError.__init__" := ⟨.inr ⟨"OverflowError", PySem.W.mg_none_of X G z_OverflowError, by decide, rfl, by kernel_rfl, by decide +kernel, hO⟩⟩
  have x0 : XM ⟨l.prog, w, K, mg, base⟩ "BadColours" C0 "value" "no such colours" "value" true := by
    obtain ⟨q1, q2, q3, q4, q5, q6, q7, q8, q9⟩ := xmB_ok hx0
    exact xm_mk (st := (inClass (top 11) 0)) X G true aC0 q1 iC0 q2 lI0 cI0 q3 q4 PySem.F.excBase_ValueError PySem.F.store_ValueError q5 q6 q7 q8 WH q9 ⟨rfl, rfl, rfl, by decide +kernel, rfl, by decide +kernel, by decide +kernel⟩ rfl rfl rfl rfl rfl rfl rfl rfl _ (fun _ => rfl) (fun _ _ _ _ _ _ _ _ _ _ _ => ⟨⟨_, rfl, rfl⟩, ⟨_, rfl, rfl⟩, ⟨_, rfl, rfl⟩⟩) (fun q => by cases q)
  have x1 : XM ⟨l.prog, w, K, mg, base⟩ "BadDeed" C1 "place" "no such deed" "place" true := by
    obtain ⟨q1, q2, q3, q4, q5, q6, q7, q8, q9⟩ := xmB_ok hx1
    exact xm_mk (st := (inClass (top 14) 0)) X G true aC1 q1 iC1 q2 lI1 cI1 q3 q4 PySem.F.excBase_ValueError PySem.F.store_ValueError q5 q6 q7 q8 WH q9 ⟨rfl, rfl, rfl, by decide +kernel, rfl, by decide +kernel, by decide +kernel⟩ rfl rfl rfl rfl rfl rfl rfl rfl _ (fun _ => rfl) (fun _ _ _ _ _ _ _ _ _ _ _ => ⟨⟨_, rfl, rfl⟩, ⟨_, rfl, rfl⟩, ⟨_, rfl, rfl⟩⟩) (fun q => by cases q)
  have x2 : XM ⟨l.prog, w, K, mg, base⟩ "BadGlue" C2 "place" "no such glue" "place" true := by
    obtain ⟨q1, q2, q3, q4, q5, q6, q7, q8, q9⟩ := xmB_ok hx2
    exact xm_mk (st := (inClass (top 9) 0)) X G true aC2 q1 iC2 q2 lI2 cI2 q3 q4 PySem.F.excBase_ValueError PySem.F.store_ValueError q5 q6 q7 q8 WH q9 ⟨rfl, rfl, rfl, by decide +kernel, rfl, by decide +kernel, by decide +kernel⟩ rfl rfl rfl rfl rfl rfl rfl rfl _ (fun _ => rfl) (fun _ _ _ _ _ _ _ _ _ _ _ => ⟨⟨_, rfl, rfl⟩, ⟨_, rfl, rfl⟩, ⟨_, rfl, rfl⟩⟩) (fun q => by cases q)
  have x3 : XM ⟨l.prog, w, K, mg, base⟩ "BadLadder" C3 "place" "no such ladder" "place" true := by
    obtain ⟨q1, q2, q3, q4, q5, q6, q7, q8, q9⟩ := xmB_ok hx3
    exact xm_mk (st := (inClass (top 6) 0)) X G true aC3 q1 iC3 q2 lI3 cI3 q3 q4 PySem.F.excBase_ValueError PySem.F.store_ValueError q5 q6 q7 q8 WH q9 ⟨rfl, rfl, rfl, by decide +kernel, rfl, by decide +kernel, by decide +kernel⟩ rfl rfl rfl rfl rfl rfl rfl rfl _ (fun _ => rfl) (fun _ _ _ _ _ _ _ _ _ _ _ => ⟨⟨_, rfl, rfl⟩, ⟨_, rfl, rfl⟩, ⟨_, rfl, rfl⟩⟩) (fun q => by cases q)
  have x4 : XM ⟨l.prog, w, K, mg, base⟩ "BadMacros" C4 "place" "no such macros" "place" true := by
    obtain ⟨q1, q2, q3, q4, q5, q6, q7, q8, q9⟩ := xmB_ok hx4
    exact xm_mk (st := (inClass (top 16) 0)) X G true aC4 q1 iC4 q2 lI4 cI4 q3 q4 PySem.F.excBase_ValueError PySem.F.store_ValueError q5 q6 q7 q8 WH q9 ⟨rfl, rfl, rfl, by decide +kernel, rfl, by decide +kernel, by decide +kernel⟩ rfl rfl rfl rfl rfl rfl rfl rfl _ (fun _ => rfl) (fun _ _ _ _ _ _ _ _ _ _ _ => ⟨⟨_, rfl, rfl⟩, ⟨_, rfl, rfl⟩, ⟨_, rfl, rfl⟩⟩) (fun q => by cases q)
  have x5 : XM ⟨l.prog, w, K, mg, base⟩ "BadNumber" C5 "value" "no such number" "value" true := by
    obtain ⟨q1, q2, q3, q4, q5, q6, q7, q8, q9⟩ := xmB_ok hx5
    exact xm_mk (st := (inClass (top 13) 0)) X G true aC5 q1 iC5 q2 lI5 cI5 q3 q4 PySem.F.excBase_ValueError PySem.F.store_ValueError q5 q6 q7 q8 WH q9 ⟨rfl, rfl, rfl, by decide +kernel, rfl, by decide +kernel, by decide +kernel⟩ rfl rfl rfl rfl rfl rfl rfl rfl _ (fun _ => rfl) (fun _ _ _ _ _ _ _ _ _ _ _ => ⟨⟨_, rfl, rfl⟩, ⟨_, rfl, rfl⟩, ⟨_, rfl, rfl⟩⟩) (fun q => by cases q)
  have x6 : XM ⟨l.prog, w, K, mg, base⟩ "BadOrders" C6 "place" "no such orders" "place" true := by
    obtain ⟨q1, q2, q3, q4, q5, q6, q7, q8, q9⟩ := xmB_ok hx6
    exact xm_mk (st := (inClass (top 17) 0)) X G true aC6 q1 iC6 q2 lI6 cI6 q3 q4 PySem.F.excBase_ValueError PySem.F.store_ValueError q5 q6 q7 q8 WH q9 ⟨rfl, rfl, rfl, by decide +kernel, rfl, by decide +kernel, by decide +kernel⟩ rfl rfl rfl rfl rfl rfl rfl rfl _ (fun _ => rfl) (fun _ _ _ _ _ _ _ _ _ _ _ => ⟨⟨_, rfl, rfl⟩, ⟨_, rfl, rfl⟩, ⟨_, rfl, rfl⟩⟩) (fun q => by cases q)
  have x7 : XM ⟨l.prog, w, K, mg, base⟩ "BadPaper" C7 "place" "no such paper" "place" true := by
    obtain ⟨q1, q2, q3, q4, q5, q6, q7, q8, q9⟩ := xmB_ok hx7
    exact xm_mk (st := (inClass (top 7) 0)) X G true aC7 q1 iC7 q2 lI7 cI7 q3 q4 PySem.F.excBase_ValueError PySem.F.store_ValueError q5 q6 q7 q8 WH q9 ⟨rfl, rfl, rfl, by decide +kernel, rfl, by decide +kernel, by decide +kernel⟩ rfl rfl rfl rfl rfl rfl rfl rfl _ (fun _ => rfl) (fun _ _ _ _ _ _ _ _ _ _ _ => ⟨⟨_, rfl, rfl⟩, ⟨_, rfl, rfl⟩, ⟨_, rfl, rfl⟩⟩) (fun q => by cases q)
  have x8 : XM ⟨l.prog, w, K, mg, base⟩ "BadPerm" C8 "value" "no such permutation" "value" true := by
    obtain ⟨q1, q2, q3, q4, q5, q6, q7, q8, q9⟩ := xmB_ok hx8
    exact xm_mk (st := (inClass (top 2) 0)) X G true aC8 q1 iC8 q2 lI8 cI8 q3 q4 PySem.F.excBase_ValueError PySem.F.store_ValueError q5 q6 q7 q8 WH q9 ⟨rfl, rfl, rfl, by decide +kernel, rfl, by decide +kernel, by decide +kernel⟩ rfl rfl rfl rfl rfl rfl rfl rfl _ (fun _ => rfl) (fun _ _ _ _ _ _ _ _ _ _ _ => ⟨⟨_, rfl, rfl⟩, ⟨_, rfl, rfl⟩, ⟨_, rfl, rfl⟩⟩) (fun q => by cases q)
  have x9 : XM ⟨l.prog, w, K, mg, base⟩ "BadPieces" C9 "place" "no such pieces" "place" true := by
    obtain ⟨q1, q2, q3, q4, q5, q6, q7, q8, q9⟩ := xmB_ok hx9
    exact xm_mk (st := (inClass (top 8) 0)) X G true aC9 q1 iC9 q2 lI9 cI9 q3 q4 PySem.F.excBase_ValueError PySem.F.store_ValueError q5 q6 q7 q8 WH q9 ⟨rfl, rfl, rfl, by decide +kernel, rfl, by decide +kernel, by decide +kernel⟩ rfl rfl rfl rfl rfl rfl rfl rfl _ (fun _ => rfl) (fun _ _ _ _ _ _ _ _ _ _ _ => ⟨⟨_, rfl, rfl⟩, ⟨_, rfl, rfl⟩, ⟨_, rfl, rfl⟩⟩) (fun q => by cases q)
  have x10 : XM ⟨l.prog, w, K, mg, base⟩ "BadPrices" C10 "place" "no such prices" "place" true := by
    obtain ⟨q1, q2, q3, q4, q5, q6, q7, q8, q9⟩ := xmB_ok hx10
    exact xm_mk (st := (inClass (top 22) 0)) X G true aC10 q1 iC10 q2 lI10 cI10 q3 q4 PySem.F.excBase_ValueError PySem.F.store_ValueError q5 q6 q7 q8 WH q9 ⟨rfl, rfl, rfl, by decide +kernel, rfl, by decide +kernel, by decide +kernel⟩ rfl rfl rfl rfl rfl rfl rfl rfl _ (fun _ => rfl) (fun _ _ _ _ _ _ _ _ _ _ _ => ⟨⟨_, rfl, rfl⟩, ⟨_, rfl, rfl⟩, ⟨_, rfl, rfl⟩⟩) (fun q => by cases q)
  have x11 : XM ⟨l.prog, w, K, mg, base⟩ "BadPuzzle" C11 "place" "no such puzzle" "place" true := by
    obtain ⟨q1, q2, q3, q4, q5, q6, q7, q8, q9⟩ := xmB_ok hx11
    exact xm_mk (st := (inClass (top 3) 0)) X G true aC11 q1 iC11 q2 lI11 cI11 q3 q4 PySem.F.excBase_ValueError PySem.F.store_ValueError q5 q6 q7 q8 WH q9 ⟨rfl, rfl, rfl, by decide +kernel, rfl, by decide +kernel, by decide +kernel⟩ rfl rfl rfl rfl rfl rfl rfl rfl _ (fun _ => rfl) (fun _ _ _ _ _ _ _ _ _ _ _ => ⟨⟨_, rfl, rfl⟩, ⟨_, rfl, rfl⟩, ⟨_, rfl, rfl⟩⟩) (fun q => by cases q)
  have x12 : XM ⟨l.prog, w, K, mg, base⟩ "BadRecipe" C12 "place" "no such recipe" "place" true := by
    obtain ⟨q1, q2, q3, q4, q5, q6, q7, q8, q9⟩ := xmB_ok hx12
    exact xm_mk (st := (inClass (top 5) 0)) X G true aC12 q1 iC12 q2 lI12 cI12 q3 q4 PySem.F.excBase_ValueError PySem.F.store_ValueError q5 q6 q7 q8 WH q9 ⟨rfl, rfl, rfl, by decide +kernel, rfl, by decide +kernel, by decide +kernel⟩ rfl rfl rfl rfl rfl rfl rfl rfl _ (fun _ => rfl) (fun _ _ _ _ _ _ _ _ _ _ _ => ⟨⟨_, rfl, rfl⟩, ⟨_, rfl, rfl⟩, ⟨_, rfl, rfl⟩⟩) (fun q => by cases q)
  have x13 : XM ⟨l.prog, w, K, mg, base⟩ "BadReplay" C13 "place" "no such replay" "place" true := by
    obtain ⟨q1, q2, q3, q4, q5, q6, q7, q8, q9⟩ := xmB_ok hx13
    exact xm_mk (st := (inClass (top 19) 0)) X G true aC13 q1 iC13 q2 lI13 cI13 q3 q4 PySem.F.excBase_ValueError PySem.F.store_ValueError q5 q6 q7 q8 WH q9 ⟨rfl, rfl, rfl, by decide +kernel, rfl, by decide +kernel, by decide +kernel⟩ rfl rfl rfl rfl rfl rfl rfl rfl _ (fun _ => rfl) (fun _ _ _ _ _ _ _ _ _ _ _ => ⟨⟨_, rfl, rfl⟩, ⟨_, rfl, rfl⟩, ⟨_, rfl, rfl⟩⟩) (fun q => by cases q)
  have x14 : XM ⟨l.prog, w, K, mg, base⟩ "BadRow" C14 "place" "no such row" "place" true := by
    obtain ⟨q1, q2, q3, q4, q5, q6, q7, q8, q9⟩ := xmB_ok hx14
    exact xm_mk (st := (inClass (top 18) 0)) X G true aC14 q1 iC14 q2 lI14 cI14 q3 q4 PySem.F.excBase_ValueError PySem.F.store_ValueError q5 q6 q7 q8 WH q9 ⟨rfl, rfl, rfl, by decide +kernel, rfl, by decide +kernel, by decide +kernel⟩ rfl rfl rfl rfl rfl rfl rfl rfl _ (fun _ => rfl) (fun _ _ _ _ _ _ _ _ _ _ _ => ⟨⟨_, rfl, rfl⟩, ⟨_, rfl, rfl⟩, ⟨_, rfl, rfl⟩⟩) (fun q => by cases q)
  have x15 : XM ⟨l.prog, w, K, mg, base⟩ "BadStages" C15 "place" "no such stages" "place" true := by
    obtain ⟨q1, q2, q3, q4, q5, q6, q7, q8, q9⟩ := xmB_ok hx15
    exact xm_mk (st := (inClass (top 15) 0)) X G true aC15 q1 iC15 q2 lI15 cI15 q3 q4 PySem.F.excBase_ValueError PySem.F.store_ValueError q5 q6 q7 q8 WH q9 ⟨rfl, rfl, rfl, by decide +kernel, rfl, by decide +kernel, by decide +kernel⟩ rfl rfl rfl rfl rfl rfl rfl rfl _ (fun _ => rfl) (fun _ _ _ _ _ _ _ _ _ _ _ => ⟨⟨_, rfl, rfl⟩, ⟨_, rfl, rfl⟩, ⟨_, rfl, rfl⟩⟩) (fun q => by cases q)
  have x16 : XM ⟨l.prog, w, K, mg, base⟩ "BadSystem" C16 "place" "no such system" "place" true := by
    obtain ⟨q1, q2, q3, q4, q5, q6, q7, q8, q9⟩ := xmB_ok hx16
    exact xm_mk (st := (inClass (top 21) 0)) X G true aC16 q1 iC16 q2 lI16 cI16 q3 q4 PySem.F.excBase_ValueError PySem.F.store_ValueError q5 q6 q7 q8 WH q9 ⟨rfl, rfl, rfl, by decide +kernel, rfl, by decide +kernel, by decide +kernel⟩ rfl rfl rfl rfl rfl rfl rfl rfl _ (fun _ => rfl) (fun _ _ _ _ _ _ _ _ _ _ _ => ⟨⟨_, rfl, rfl⟩, ⟨_, rfl, rfl⟩, ⟨_, rfl, rfl⟩⟩) (fun q => by cases q)
  have x17 : XM ⟨l.prog, w, K, mg, base⟩ "BadTask" C17 "place" "no such task" "place" true := by
    obtain ⟨q1, q2, q3, q4, q5, q6, q7, q8, q9⟩ := xmB_ok hx17
    exact xm_mk (st := (inClass (top 20) 0)) X G true aC17 q1 iC17 q2 lI17 cI17 q3 q4 PySem.F.excBase_ValueError PySem.F.store_ValueError q5 q6 q7 q8 WH q9 ⟨rfl, rfl, rfl, by decide +kernel, rfl, by decide +kernel, by decide +kernel⟩ rfl rfl rfl rfl rfl rfl rfl rfl _ (fun _ => rfl) (fun _ _ _ _ _ _ _ _ _ _ _ => ⟨⟨_, rfl, rfl⟩, ⟨_, rfl, rfl⟩, ⟨_, rfl, rfl⟩⟩) (fun q => by cases q)
  have x18 : XM ⟨l.prog, w, K, mg, base⟩ "BadText" C18 "place" "no such text" "place" true := by
    obtain ⟨q1, q2, q3, q4, q5, q6, q7, q8, q9⟩ := xmB_ok hx18
    exact xm_mk (st := (inClass (top 12) 0)) X G true aC18 q1 iC18 q2 lI18 cI18 q3 q4 PySem.F.excBase_ValueError PySem.F.store_ValueError q5 q6 q7 q8 WH q9 ⟨rfl, rfl, rfl, by decide +kernel, rfl, by decide +kernel, by decide +kernel⟩ rfl rfl rfl rfl rfl rfl rfl rfl _ (fun _ => rfl) (fun _ _ _ _ _ _ _ _ _ _ _ => ⟨⟨_, rfl, rfl⟩, ⟨_, rfl, rfl⟩, ⟨_, rfl, rfl⟩⟩) (fun q => by cases q)
  have x19 : XM ⟨l.prog, w, K, mg, base⟩ "BadWeb" C19 "place" "no such web" "place" true := by
    obtain ⟨q1, q2, q3, q4, q5, q6, q7, q8, q9⟩ := xmB_ok hx19
    exact xm_mk (st := (inClass (top 10) 0)) X G true aC19 q1 iC19 q2 lI19 cI19 q3 q4 PySem.F.excBase_ValueError PySem.F.store_ValueError q5 q6 q7 q8 WH q9 ⟨rfl, rfl, rfl, by decide +kernel, rfl, by decide +kernel, by decide +kernel⟩ rfl rfl rfl rfl rfl rfl rfl rfl _ (fun _ => rfl) (fun _ _ _ _ _ _ _ _ _ _ _ => ⟨⟨_, rfl, rfl⟩, ⟨_, rfl, rfl⟩, ⟨_, rfl, rfl⟩⟩) (fun q => by cases q)
  have x20 : XM ⟨l.prog, w, K, mg, base⟩ "BadWord" C20 "place" "no such word" "place" true := by
    obtain ⟨q1, q2, q3, q4, q5, q6, q7, q8, q9⟩ := xmB_ok hx20
    exact xm_mk (st := (inClass (top 4) 0)) X G true aC20 q1 iC20 q2 lI20 cI20 q3 q4 PySem.F.excBase_ValueError PySem.F.store_ValueError q5 q6 q7 q8 WH q9 ⟨rfl, rfl, rfl, by decide +kernel, rfl, by decide +kernel, by decide +kernel⟩ rfl rfl rfl rfl rfl rfl rfl rfl _ (fun _ => rfl) (fun _ _ _ _ _ _ _ _ _ _ _ => ⟨⟨_, rfl, rfl⟩, ⟨_, rfl, rfl⟩, ⟨_, rfl, rfl⟩⟩) (fun q => by cases q)
  have x21 : XM ⟨l.prog, w, K, mg, base⟩ "NoSuch" C21 "value" "nothing so called" "value" true := by
    obtain ⟨q1, q2, q3, q4, q5, q6, q7, q8, q9⟩ := xmB_ok hx21
    exact xm_mk (st := (inClass (top 24) 0)) X G true aC21 q1 iC21 q2 lI21 cI21 q3 q4 PySem.F.excBase_LookupError PySem.F.store_LookupError q5 q6 q7 q8 WL q9 ⟨rfl, rfl, rfl, by decide +kernel, rfl, by decide +kernel, by decide +kernel⟩ rfl rfl rfl rfl rfl rfl rfl rfl _ (fun _ => rfl) (fun _ _ _ _ _ _ _ _ _ _ _ => ⟨⟨_, rfl, rfl⟩, ⟨_, rfl, rfl⟩, ⟨_, rfl, rfl⟩⟩) (fun q => by cases q)
  have x22 : XM ⟨l.prog, w, K, mg, base⟩ "TooMany" C22 "most" "too many" "most" false := by
    obtain ⟨q1, q2, q3, q4, q5, q6, q7, q8, q9⟩ := xmB_ok hx22
    exact xm_mk (st := (inClass (top 23) 0)) X G false aC22 q1 iC22 q2 lI22 cI22 q3 q4 PySem.F.excBase_OverflowError PySem.F.store_OverflowError q5 q6 q7 q8 WO q9 ⟨rfl, rfl, rfl, by decide +kernel, rfl, by decide +kernel, by decide +kernel⟩ rfl rfl rfl rfl rfl rfl rfl rfl _ (fun _ => rfl) (fun q => by cases q) (fun _ _ _ _ _ _ _ _ _ => ⟨rfl, rfl⟩)
  have FM : KM ⟨l.prog, w, K, mg, base⟩ (fun j => ([C0, C1, C2, C3, C4, C5, C6, C7, C8, C9, C10, C11, C12, C13, C14, C15, C16, C17, C18, C19, C20, C21, C22, C23] : List Addr).getD j 0) := fun j hj => match j, hj with
    | 0, _ => x0
    | 1, _ => x1
    | 2, _ => x2
    | 3, _ => x3
    | 4, _ => x4
    | 5, _ => x5
    | 6, _ => x6
    | 7, _ => x7
    | 8, _ => x8
    | 9, _ => x9
    | 10, _ => x10
    | 11, _ => x11
    | 12, _ => x12
    | 13, _ => x13
    | 14, _ => x14
    | 15, _ => x15
    | 16, _ => x16
    | 17, _ => x17
    | 18, _ => x18
    | 19, _ => x19
    | 20, _ => x20
    | 21, _ => x21
    | 22, _ => x22
    | n + 23, hj => absurd hj (Nat.not_lt.mpr (Nat.le_add_left 23 n))
  have hq' := List.all_eq_true.mp hq
  have hk' := List.all_eq_true.mp hk
  have F : KF ⟨l.prog, w, K, mg, base⟩ (fun j => ([C0, C1, C2, C3, C4, C5, C6, C7, C8, C9, C10, C11, C12, C13, C14, C15, C16, C17, C18, C19, C20, C21, C22, C23] : List Addr).getD j 0) bT := by
    refine ⟨fun j hj => ?_, fun i hi => (xqB_ok (hq' i (List.mem_range.mpr hi))).1, ⟨hg1, hg2⟩, fun i j hi hj => of_decide_eq_true (List.all_eq_true.mp (hk' i (List.mem_range.mpr hi)) j (List.mem_range.mpr hj)), PySem.W.mg_none_of X G z_isinstance, PySem.W.mg_none_of X G z_ValueError, PySem.W.mg_none_of X G z_LookupError, PySem.W.mg_none_of X G z_OverflowError⟩
    match j, hj with
    | 0, _ => exact PySem.W.mg_of X G aC0
    | 1, _ => exact PySem.W.mg_of X G aC1
    | 2, _ => exact PySem.W.mg_of X G aC2
    | 3, _ => exact PySem.W.mg_of X G aC3
    | 4, _ => exact PySem.W.mg_of X G aC4
    | 5, _ => exact PySem.W.mg_of X G aC5
    | 6, _ => exact PySem.W.mg_of X G aC6
    | 7, _ => exact PySem.W.mg_of X G aC7
    | 8, _ => exact PySem.W.mg_of X G aC8
    | 9, _ => exact PySem.W.mg_of X G aC9
    | 10, _ => exact PySem.W.mg_of X G aC10
    | 11, _ => exact PySem.W.mg_of X G aC11
    | 12, _ => exact PySem.W.mg_of X G aC12
    | 13, _ => exact PySem.W.mg_of X G aC13
    | 14, _ => exact PySem.W.mg_of X G aC14
    | 15, _ => exact PySem.W.mg_of X G aC15
    | 16, _ => exact PySem.W.mg_of X G aC16
    | 17, _ => exact PySem.W.mg_of X G aC17
    | 18, _ => exact PySem.W.mg_of X G aC18
    | 19, _ => exact PySem.W.mg_of X G aC19
    | 20, _ => exact PySem.W.mg_of X G aC20
    | 21, _ => exact PySem.W.mg_of X G aC21
    | 22, _ => exact PySem.W.mg_of X G aC22
    | 23, _ => exact PySem.W.mg_of X G aC23
    | n + 24, hj => exact absurd hj (Nat.not_lt.mpr (Nat.le_add_left 24 n))
  have no : ∀ j, j < 23 → PySem.W.findIn K (.ref ((fun j => ([C0, C1, C2, C3, C4, C5, C6, C7, C8, C9, C10, C11, C12, C13, C14, C15, C16, C17, C18, C19, C20, C21, C22, C23] : List Addr).getD j 0) j)) (fldn.getD j "") = some none := fun i hi => (xqB_ok (hq' i (List.mem_range.mpr hi))).2
  have Fm := ok_mixed h_mixed
  have Fd := ok_draw h_draw
  have Fdig := ok_digit h_digit (PySem.W.mg_none_of X G z_range) Fm
  have Fk := ok_kinds h_kinds F
  have Fv := ok_valued h_valued FM
  have Fp := ok_placed h_placed FM
  have Fr := ok_right h_right F FM Fk Fv Fp no
  exact ok_law (fun_mk l_law c_law k_law) F FM no Fd Fdig Fr Fv Fp (PySem.W.mg_none_of X G z_enumerate) (PySem.W.mg_none_of X G z_sum) (PySem.W.mg_none_of X G z_str)
theorem walk {l : PySem.W.OpenLaw} {q : Program} {loose : List Str} {XP : (Str → Option Value) → Heap → Prop} {YP : World → Heap → Prop} {d : DefRec} {K : Params → PySem.W.Frag} (hn : l.most = some 63) (hdf : d.params.defaults = []) (hY : ∀ (w : World) (h : Heap), YP w h → (K w.params).In h)
    (F : ∀ (w : World) (mg : Str → Option Value) (fa : Addr) (h : Heap), (K w.params).In h → h.Ns mainGlobals mg → mg d.name = some (.ref fa) →
      ∃ fd : FuncData, (∀ (s : Shared) (u : Value), BindsTo s fd ⟨[u], []⟩ [("script", u)]) ∧ ∀ base : Heap, (K w.params).In base → base.Ns mainGlobals mg → FnOk l.prog w (K w.params) mg base CX0 5 fa fd ["script"] (spLaw (K w.params))) :
    PySem.W.WalkO q loose XP YP l.row.toRowW d [] (fun f vs => PySem.call f vs) :=
  L2.walk_ofB (n := 63) (k := 5) (x := "script") (CX := fun _ => CX0) (sp := fun w => spLaw (K w.params)) hn (by decide) hdf ⟨rfl, by decide, by decide⟩ hY F (fun _ _ a ns hl hb _ hS => ⟨a, ns, rfl, hS, hl, hb, fun _ => rfl⟩) fun _ _ _ _ _ z => z
end K

open PySem PySem.W PyProof.Rows in
set_option maxRecDepth 100000 in
set_option maxHeartbeats 0 in
theorem PySem.Challenge.cw_siftedhome_k99_errors_by_hand_holds : PySem.Challenge.rw_siftedhome_k99_errors_by_hand.Holds := by
  w_on; o_law; k_head; (case hw => w_witness2)
  k_fill
  refine K.walk (l := PySem.Challenge.rw_siftedhome_k99_errors_by_hand) rfl rfl (fun w h Y => PySem.W.kIn_of Y) ?F
  case F =>
    intro w mg fa h KX G hmg
    refine' K.all_mk KX G hmg ?a_mixed ?l_mixed ?c_mixed ?k_mixed ?a_draw ?l_draw ?c_draw ?k_draw ?a_digit ?l_digit ?c_digit ?k_digit ?a_kinds ?l_kinds ?c_kinds ?k_kinds ?a_valued ?l_valued ?c_valued ?k_valued ?a_placed ?l_placed ?c_placed ?k_placed ?a_right ?l_right ?c_right ?k_right ?a_law ?l_law ?c_law ?k_law ?aC0 ?iC0 ?lI0 ?cI0 ?hx0 ?aC1 ?iC1 ?lI1 ?cI1 ?hx1 ?aC2 ?iC2 ?lI2 ?cI2 ?hx2 ?aC3 ?iC3 ?lI3 ?cI3 ?hx3 ?aC4 ?iC4 ?lI4 ?cI4 ?hx4 ?aC5 ?iC5 ?lI5 ?cI5 ?hx5 ?aC6 ?iC6 ?lI6 ?cI6 ?hx6 ?aC7 ?iC7 ?lI7 ?cI7 ?hx7 ?aC8 ?iC8 ?lI8 ?cI8 ?hx8 ?aC9 ?iC9 ?lI9 ?cI9 ?hx9 ?aC10 ?iC10 ?lI10 ?cI10 ?hx10 ?aC11 ?iC11 ?lI11 ?cI11 ?hx11 ?aC12 ?iC12 ?lI12 ?cI12 ?hx12 ?aC13 ?iC13 ?lI13 ?cI13 ?hx13 ?aC14 ?iC14 ?lI14 ?cI14 ?hx14 ?aC15 ?iC15 ?lI15 ?cI15 ?hx15 ?aC16 ?iC16 ?lI16 ?cI16 ?hx16 ?aC17 ?iC17 ?lI17 ?cI17 ?hx17 ?aC18 ?iC18 ?lI18 ?cI18 ?hx18 ?aC19 ?iC19 ?lI19 ?cI19 ?hx19 ?aC20 ?iC20 ?lI20 ?cI20 ?hx20 ?aC21 ?iC21 ?lI21 ?cI21 ?hx21 ?aC22 ?iC22 ?lI22 ?cI22 ?hx22 ?aC23 ?hH1 ?hH2 ?hH3 ?hL ?hO ?hq ?hk ?hg1 ?hg2 ?z_isinstance ?z_ValueError ?z_LookupError ?z_OverflowError ?z_enumerate ?z_sum ?z_str ?z_range
    (case a_mixed => k_is)
    (case l_mixed => k_is)
    (case c_mixed => k_is)
    (case k_mixed => k_is)
    (case a_draw => k_is)
    (case l_draw => k_is)
    (case c_draw => k_is)
    (case k_draw => k_is)
    (case a_digit => k_is)
    (case l_digit => k_is)
    (case c_digit => k_is)
    (case k_digit => k_is)
    (case a_kinds => k_is)
    (case l_kinds => k_is)
    (case c_kinds => k_is)
    (case k_kinds => k_is)
    (case a_valued => k_is)
    (case l_valued => k_is)
    (case c_valued => k_is)
    (case k_valued => k_is)
    (case a_placed => k_is)
    (case l_placed => k_is)
    (case c_placed => k_is)
    (case k_placed => k_is)
    (case a_right => k_is)
    (case l_right => k_is)
    (case c_right => k_is)
    (case k_right => k_is)
    (case a_law => k_is)
    (case l_law => k_is)
    (case c_law => k_is)
    (case k_law => k_is)
    (case aC0 => k_is)
    (case iC0 => k_is)
    (case lI0 => k_is)
    (case cI0 => k_is)
    (case hx0 => kernel_rfl)
    (case aC1 => k_is)
    (case iC1 => k_is)
    (case lI1 => k_is)
    (case cI1 => k_is)
    (case hx1 => kernel_rfl)
    (case aC2 => k_is)
    (case iC2 => k_is)
    (case lI2 => k_is)
    (case cI2 => k_is)
    (case hx2 => kernel_rfl)
    (case aC3 => k_is)
    (case iC3 => k_is)
    (case lI3 => k_is)
    (case cI3 => k_is)
    (case hx3 => kernel_rfl)
    (case aC4 => k_is)
    (case iC4 => k_is)
    (case lI4 => k_is)
    (case cI4 => k_is)
    (case hx4 => kernel_rfl)
    (case aC5 => k_is)
    (case iC5 => k_is)
    (case lI5 => k_is)
    (case cI5 => k_is)
    (case hx5 => kernel_rfl)
    (case aC6 => k_is)
    (case iC6 => k_is)
    (case lI6 => k_is)
    (case cI6 => k_is)
    (case hx6 => kernel_rfl)
    (case aC7 => k_is)
    (case iC7 => k_is)
    (case lI7 => k_is)
    (case cI7 => k_is)
    (case hx7 => kernel_rfl)
    (case aC8 => k_is)
    (case iC8 => k_is)
    (case lI8 => k_is)
    (case cI8 => k_is)
    (case hx8 => kernel_rfl)
    (case aC9 => k_is)
    (case iC9 => k_is)
    (case lI9 => k_is)
    (case cI9 => k_is)
    (case hx9 => kernel_rfl)
    (case aC10 => k_is)
    (case iC10 => k_is)
    (case lI10 => k_is)
    (case cI10 => k_is)
    (case hx10 => kernel_rfl)
    (case aC11 => k_is)
    (case iC11 => k_is)
    (case lI11 => k_is)
    (case cI11 => k_is)
    (case hx11 => kernel_rfl)
    (case aC12 => k_is)
    (case iC12 => k_is)
    (case lI12 => k_is)
    (case cI12 => k_is)
    (case hx12 => kernel_rfl)
    (case aC13 => k_is)
    (case iC13 => k_is)
    (case lI13 => k_is)
    (case cI13 => k_is)
    (case hx13 => kernel_rfl)
    (case aC14 => k_is)
    (case iC14 => k_is)
    (case lI14 => k_is)
    (case cI14 => k_is)
    (case hx14 => kernel_rfl)
    (case aC15 => k_is)
    (case iC15 => k_is)
    (case lI15 => k_is)
    (case cI15 => k_is)
    (case hx15 => kernel_rfl)
    (case aC16 => k_is)
    (case iC16 => k_is)
    (case lI16 => k_is)
    (case cI16 => k_is)
    (case hx16 => kernel_rfl)
    (case aC17 => k_is)
    (case iC17 => k_is)
    (case lI17 => k_is)
    (case cI17 => k_is)
    (case hx17 => kernel_rfl)
    (case aC18 => k_is)
    (case iC18 => k_is)
    (case lI18 => k_is)
    (case cI18 => k_is)
    (case hx18 => kernel_rfl)
    (case aC19 => k_is)
    (case iC19 => k_is)
    (case lI19 => k_is)
    (case cI19 => k_is)
    (case hx19 => kernel_rfl)
    (case aC20 => k_is)
    (case iC20 => k_is)
    (case lI20 => k_is)
    (case cI20 => k_is)
    (case hx20 => kernel_rfl)
    (case aC21 => k_is)
    (case iC21 => k_is)
    (case lI21 => k_is)
    (case cI21 => k_is)
    (case hx21 => kernel_rfl)
    (case aC22 => k_is)
    (case iC22 => k_is)
    (case lI22 => k_is)
    (case cI22 => k_is)
    (case hx22 => kernel_rfl)
    (case aC23 => k_is)
    (case hH1 => k_is)
    (case hH2 => k_is)
    (case hH3 => k_is)
    (case hL => k_is)
    (case hO => k_is)
    (case hq => kernel_rfl)
    (case hk => kernel_rfl)
    (case hg1 => k_is)
    (case hg2 => k_is)
    (case z_isinstance => k_is)
    (case z_ValueError => k_is)
    (case z_LookupError => k_is)
    (case z_OverflowError => k_is)
    (case z_enumerate => k_is)
    (case z_sum => k_is)
    (case z_str => k_is)
    (case z_range => k_is)
