import PyProof.Rows.All
import Wide.All
import OpenK.AllK
import Wide.FinOn
import PyProof.EqAt
import PyProof.EqKinds
import PyProof.TupleCall
import HandS.ForMost
import HandS.Walk
import HandS.Conv
import KE.KExcInit
import HandS.Exc
import HandS.ExcInit
import HandS.ExcIs
import HandS.ExcField
import HandS.MakeKw
import HandS.MakeKwOnly
import KE.KExcStr
import HandS.Defaults
import HandS.Lambda
import HandS.ExcValue
import HandS.TryMany
import KE.GoesEnum
import HandS.SetFor
import HandS.Zip
import HandS.Style
import HandS.TupAny
import HandS.Iter
import PyProof.SeqIndex
import HandS.WordsExc
import HandS.SortInts
import PyProof.TupleOfSeq
import HandS.Flow
import HandS.IsInst
import HandS.TupMul
import HandS.RaiseMore
import PyProof.StrOps2
import HandS.CallSlots
import PyProof.ReprLen
import HandS.EndTab
import HandS.EndOwn
import PySem.Challenge.RW_siftedhome_k00_permutations
import HandS.HeadHook2
import HandS.EndBits
set_option Elab.async false
set_option linter.all false
set_option maxRecDepth 100000
set_option maxHeartbeats 0
/-! Own exceptions as values, made with or without keywords, over any built-in base. -/
namespace DX
open PySem PySem.HandSPX PySem.Builtin PySem.Builtin.ObjectAttr
section
variable {Mo : Model} {Ar : Around} {Er : Value → Shared → Prop} {hp : Heap} {gs : Array GenState} {dr : Drawn} {tk : Nat} {ost : OsState}
variable {nm q : Str} {C N : Addr} {bs bm bmB : List Value} {hdct : Bool} {sn : List Str} {sub : List Value} {ab : Bool} {col : Option Bool} {dd : Option Addr} {k0 k1 k2 k3 k5 : Option Value} {B nI iI : String} {us : List Value} {kw : List (Str × Value)}
theorem new_checked (F : ExcBaseFacts B nI iI bmB) (hT : ∀ Y : String, bm.contains (.type Y) = bmB.contains (.type Y)) {Q : Unit → Shared → Prop} (hC : hp.get? C = some (excClassObj nm q C N bs bm hdct sn sub ab col dd k0 k1 k2 k3 k5 nI)) (hQ : Q () ⟨hp, gs, dr, tk, ost⟩) :
    wpAny Mo Ar (checkBuiltinCall nI ⟨.ref C :: us, kw⟩) Q Er ⟨hp, gs, dr, tk, ost⟩ := by
  have c1 : (Value.ref C :: bm).contains (.type B) = true := (List.contains_cons ..).trans (by rw [hT, F.hasB, Bool.or_true])
  have c2 := F.noStar
  simp only [checkBuiltinCall, F.newKind, F.newSplit, F.newRow]
  repeat (first | refine wpAny_loadPart_at hC ?_ | (refine wpAny_isSubtype_exc hC ?_; rw [c1]) | refine wpAny_staticBase_exc hC ?_ | refine wpAny_madeBy_exc hC ?_ | simp only [bne_self_eq_false, Bool.false_eq_true, if_false] | wp_step)
  exact hQ
/-- B.__init__(e, ..): no check stands in the way -/
theorem init_checked (F : ExcBaseFacts B nI iI bmB) (hT : ∀ Y : String, bm.contains (.type Y) = bmB.contains (.type Y)) {e : Addr} {ob : Obj} {Q : Unit → Shared → Prop} (hC : hp.get? C = some (excClassObj nm q C N bs bm hdct sn sub ab col dd k0 k1 k2 k3 k5 nI))
    (he : hp.get? e = some ob) (ec : ob.cls = .ref C) (hQ : Q () ⟨hp, gs, dr, tk, ost⟩) : wpAny Mo Ar (checkBuiltinCall iI ⟨.ref e :: us, []⟩) Q Er ⟨hp, gs, dr, tk, ost⟩ := check_init_own F hT hC he ec hQ
end
section
variable {pg : Program} {w : World} {Ar : Around} {Er : Value → Shared → Prop} {R : Result → Shared → Prop} {hp : Heap} {gs : Array GenState} {dr : Drawn} {tk : Nat} {ost : OsState}
variable {nm q : Str} {C N : Addr} {bs bm bmB : List Value} {hdct : Bool} {sn : List Str} {sub : List Value} {ab : Bool} {col : Option Bool} {dd : Option Addr} {k0 k1 k2 k3 k5 : Option Value} {B nI iI : String} {us : List Value} {kw : List (Str × Value)}
theorem new_run (F : ExcBaseFacts B nI iI bmB) (hT : ∀ Y : String, bm.contains (.type Y) = bmB.contains (.type Y)) (hC : hp.get? C = some (excClassObj nm q C N bs bm hdct sn sub ab col dd k0 k1 k2 k3 k5 nI)) (hl : us.length ≤ sizeLine)
    (hR : R (.ok (.ret (.ref (hp.objs.size + 1)))) ⟨(hp.push (W.kdv_tup us)).push (excO C hp.objs.size), gs, dr, tk, ost⟩) : codeAny (model pg w) Ar (.builtin nI ⟨.ref C :: us, kw⟩) R ⟨hp, gs, dr, tk, ost⟩ := by
  have x1 := F.ends
  have c1 : (Value.ref C :: bm).contains (.type B) = true := (List.contains_cons ..).trans (by rw [hT, F.hasB, Bool.or_true])
  have c2 : (Value.ref C :: bm).contains (.type "AttributeError") = false := (List.contains_cons ..).trans (by rw [hT, F.noAttr]; rfl)
  have c3 : (Value.ref C :: bm).contains (.type "NameError") = false := (List.contains_cons ..).trans (by rw [hT, F.noName]; rfl)
  refine codeAny_builtinAt F.entry ?_
  unfold Builtin.«BaseException.__new__»
  refine wpAt_bind ?_
  show wpAt _ _ _ (stack >>= _) _ _ _
  refine wpAt_bind (wpAt_stack fun p0 b0 => wpAt_of_wpAny ?_)
  wp_walk
  refine wpAt_of_wpAny ?_
  rw [F.owner]
  repeat (first | with_reducible refine wpAny_madeHere_exc F.canon hC ?_ | with_reducible refine wpAny_loadPart_at hC ?_ | (with_reducible refine wpAny_isSubtype_exc hC ?_; first | rw [c1] | rw [c2] | rw [c3]) | wp_step)
  show R _ _
  rw [Heap.size_push]
  exact hR
/-- C(..) with keywords: the object, its args, then the own __init__ -/
theorem type_call_kw (F : ExcBaseFacts B nI iI bmB) (hT : ∀ Y : String, bm.contains (.type Y) = bmB.contains (.type Y)) {fI : Addr} {Q : Fin → Shared → Prop} (hC : hp.get? C = some (excClassObj nm q C N bs bm hdct sn sub ab col dd k0 k1 k2 k3 k5 nI)) (hl : us.length ≤ sizeLine)
    (hi : W.Looks (model pg w) hp (typeLookup (.ref C) "__init__") (some (.ref fI))) (hb : ∀ self, W.Looks (model pg w) hp (bindSpecial (.ref fI) self) (.ref fI, [self]))
    (run : codeAny (model pg w) Ar (.call (.ref fI) ⟨.ref (hp.objs.size + 1) :: us, kw⟩) (fun r s' => match r with | .ok (.ret v) => v = .none ∧ Q (.done (.ret (.ref (hp.objs.size + 1)))) s' | .ok _ => False | .error e => Er e s')
      ⟨(hp.push (W.kdv_tup us)).push (excO C hp.objs.size), gs, dr, tk, ost⟩) : wpAny (model pg w) Ar (Builtin.«type.__call__» ⟨.ref C :: us, kw⟩) Q Er ⟨hp, gs, dr, tk, ost⟩ := by
  repeat (first | with_reducible refine wpAny_loadPart_at hC ?_ | with_reducible refine wpAny_madeBy_exc hC ?_ | wp_step)
  refine codeAny_call_builtin_code (Code.quiet_builtin _ F.quiet) (new_checked F hT hC (new_run F hT hC hl ?_))
  show wpAny _ _ _ _ _ _
  have kp : ∀ b o, hp.get? b = some o → ((hp.push (W.kdv_tup us)).push (excO C hp.objs.size)).get? b = some o := fun b o z => Heap.get?_push_of_some _ (Heap.get?_push_of_some _ z)
  have qC := kp _ _ hC
  have qe : ((hp.push (W.kdv_tup us)).push (excO C hp.objs.size)).get? (hp.objs.size + 1) = some (excO C hp.objs.size) := by heap_get
  have cc : (Value.ref C :: bm).contains (.ref C) = true := by simp
  have j1 := hi.keeps kp
  have j2 := (hb (.ref (hp.objs.size + 1))).keeps kp
  unfold isInstance
  repeat (first | with_reducible refine wpAny_loadPart_at qe ?_ | (with_reducible refine wpAny_isSubtype_exc qC ?_; rw [cc]) | wp_step)
  show wpAny _ _ (typeLookup (.ref C) _) _ _ _
  refine j1.at (wpAny_holding (wpAny_bind (j2.at (wpAny_bind (wpAny_call (codeAny_mono run fun r s' z => ?_))))))
  rcases r with e | (v | _ | _ | _) <;> first | exact z | exact z.elim | skip
  obtain ⟨rfl, z⟩ := z
  first
    | exact wpAny_pure (wpAny_pure z)
    | (wp_walk; exact z)
theorem call_kw (F : ExcBaseFacts B nI iI bmB) (hT : ∀ Y : String, bm.contains (.type Y) = bmB.contains (.type Y)) {fI : Addr} (hC : hp.get? C = some (excClassObj nm q C N bs bm hdct sn sub ab col dd k0 k1 k2 k3 k5 nI)) (hl : us.length ≤ sizeLine)
    (hi : W.Looks (model pg w) hp (typeLookup (.ref C) "__init__") (some (.ref fI))) (hb : ∀ self, W.Looks (model pg w) hp (bindSpecial (.ref fI) self) (.ref fI, [self]))
    (run : codeAny (model pg w) (Ar.under (.builtin "type.__call__" ⟨.ref C :: us, kw⟩)) (.call (.ref fI) ⟨.ref (hp.objs.size + 1) :: us, kw⟩) (W.InitBack (hp.objs.size + 1) R) ⟨(hp.push (W.kdv_tup us)).push (excO C hp.objs.size), gs, dr, tk, ost⟩) :
    codeAny (model pg w) Ar (.call (.ref C) ⟨us, kw⟩) R ⟨hp, gs, dr, tk, ost⟩ := by
  have f1 := tc_lookup
  have f2 := tc_bind (.ref C)
  have f3 : (⟨hp, gs, dr, tk, ost⟩ : Shared).TypeIs (.ref C) "type" := ⟨_, hC, rfl⟩
  refine codeAny_of_tree ?_
  show wpAny _ _ (callAny (.ref C) _) _ _ _
  repeat (any_goals (first | assumption | with_reducible refine wpAny_loadPart_at hC ?_ | wp_step))
  refine ⟨rfl, ?_⟩
  refine codeAny_call_builtin_at (Code.quiet_builtin _ (by decide +kernel)) entry_typeCall (wpAny_check_type_call_sub hC (type_call_kw F hT hC hl hi hb (codeAny_mono run fun r s' z => ?_)))
  rcases r with e | (v | _ | _ | _) <;> exact z
/-- B.__init__(e, ..): the args are laid anew, and told -/
theorem init_told (F : ExcBaseFacts B nI iI bmB) (hT : ∀ Y : String, bm.contains (.type Y) = bmB.contains (.type Y)) {e t0 : Addr} (hC : hp.get? C = some (excClassObj nm q C N bs bm hdct sn sub ab col dd k0 k1 k2 k3 k5 nI)) (he : hp.get? e = some (excO C t0)) (hl : us.length ≤ sizeLine)
    (done : R (.ok (.ret .none)) ⟨(hp.push (W.kdv_tup us)).update e (Obj.mapFields fun x => x.setIfInBounds 0 (.ref hp.objs.size)), gs, dr, tk, ost⟩) : codeAny (model pg w) Ar (.call (.builtin iI) ⟨.ref e :: us, []⟩) R ⟨hp, gs, dr, tk, ost⟩ := by
  refine codeAny_call_builtin F.init.plain F.initEntry (check_init_own F hT hC he rfl ?_)
  wp_walk
  exact done
end
end DX

namespace DX
open PySem PySem.Spec PyProof.Rows L2
/-- at e an exception of the class at C, its args at t, its dict (none as yet | at d) -/
def exm (e C t : Addr) (d : Option Addr) : HO := .ext fun h => h.get? e = some ({ cls := .ref C, dict := d, data := .fields #[.ref t, .none, .none, .none, .bool false, .none] } : Obj)
structure XcC (K : PySem.W.Frag) (C : Addr) (B nI iI : String) (bmB : List Value) : Prop where
  eb : ExcBaseFacts B nI iI bmB
  sb : StoreFacts B bmB "object.__setattr__" "object"
  ei : PySem.W.excInitIn K C bmB nI = true
  eo : PySem.W.excOver K C bmB = true
  sa : PySem.W.findIn K (.ref C) "__setattr__" = some (some (.builtin "object.__setattr__"))
  hd : PySem.W.hasDictIn K C = true
  kC : PySem.W.keepIn K (.ref C) = true
theorem exm_tup {e C t : Addr} {d : Option Addr} (xs : List V) : exm e C t d ≠ .tup xs := fun z => by
  have z' : HO.ext _ = HO.tup xs := z
  cases z'
theorem exm_ok {P : Program} {w : World} {H : Hp} {h : Heap} {e C t : Addr} {d : Option Addr} (he : h.get? e = some ({ cls := .ref C, dict := d, data := .fields #[.ref t, .none, .none, .none, .bool false, .none] } : Obj)) : ObjOk P w H h e (exm e C t d) :=
  ⟨he, ⟨_, he⟩, fun _ _ z k => k _ z⟩
theorem exm_at {P : Program} {w : World} {H : Hp} {h : Heap} {e C t : Addr} {d : Option Addr} (ok : HOk P w H h) (q : H e = some (exm e C t d)) : h.get? e = some ({ cls := .ref C, dict := d, data := .fields #[.ref t, .none, .none, .none, .bool false, .none] } : Obj) := by
  have x : ObjOk P w H h e (.ext fun h => h.get? e = some ({ cls := .ref C, dict := d, data := .fields #[.ref t, .none, .none, .none, .bool false, .none] } : Obj)) := ok e _ q
  exact x.1
theorem tup_ok {P : Program} {w : World} {H : Hp} {h : Heap} {t : Addr} {vs : List V} {us : List Value} (ht : h.get? t = some (PySem.W.kdv_tup us)) (r : Vals vs us) (hl : us.length ≤ sizeLine) : ObjOk P w H h t (.tup vs) :=
  ⟨by rw [r.length]; exact hl, us, r, _, ht, rfl, 0, rfl⟩
theorem upd_upd {H : Hp} {a : Addr} {o u : HO} : upd (upd H a o) a u = upd H a u := by
  funext b
  by_cases h : b = a
  · rw [h, upd_same, upd_same]
  · rw [upd_ne h, upd_ne h, upd_ne h]
theorem upd_comm {H : Hp} {a b : Addr} {o u : HO} (n : a ≠ b) : upd (upd H a o) b u = upd (upd H b u) a o := by
  funext x
  by_cases h : x = a
  · subst h
    rw [upd_ne n, upd_same, upd_same]
  · by_cases g : x = b
    · subst g
      rw [upd_same, upd_ne h, upd_same]
    · rw [upd_ne g, upd_ne h, upd_ne h, upd_ne g]
section
variable {X : Cx} {pins : List (Addr × Obj)} {σ : L2.St} {H : Hp} {s : Shared} {a C t dx : Addr} {f : Str} {y : V} {u : Value} {fs : List (Str × V)} {B nI iI : String} {bmB us : List Value} {vs : List V}
/-- B.__init__(a, us ..) -/
theorem init_st {E : Value → Shared → Prop} {Q : Value → Shared → Prop} (T : XcC X.K C B nI iI bmB) (I : Inv X pins σ H s) (e : H a = some (exm a C t none)) (r : Vals vs us) (hl : us.length ≤ sizeLine)
    (h : ∀ t1 s', H t1 = none → Inv X pins σ (upd (upd H t1 (.tup vs)) a (exm a C t1 none)) s' → Q .none s') : wpAny (model X.prog X.w) X.A (call (.builtin iI) (.ref a :: us)) Q E s := by
  obtain ⟨nm, N, qn, bs, bm, hdct, sn, sub, ab, col, dd, k0, k1, k2, k3, k5, hC, hT⟩ := PySem.W.excInit_of I.kIn T.ei
  have ho := exm_at I.hok e
  obtain ⟨hp, g, d, tk, os⟩ := s
  have ha : a < hp.objs.size := Heap.lt_size ho
  have fr : H hp.objs.size = none := I.hok.fresh (Nat.le_refl _)
  have h1 : (hp.push (PySem.W.kdv_tup us)).get? hp.objs.size = some (PySem.W.kdv_tup us) := Heap.get?_push_at rfl rfl
  have I1 := I.laid (t' := tk) (a := hp.objs.size) (o := .tup vs) (h' := hp.push (PySem.W.kdv_tup us)) (fun b o z => Heap.get?_push_of_some _ z) (Nat.le_refl _) (tup_ok h1 r hl)
  have na : a ≠ hp.objs.size := Nat.ne_of_lt ha
  have h2 : ((hp.push (PySem.W.kdv_tup us)).update a (Obj.mapFields fun x => x.setIfInBounds 0 (.ref hp.objs.size))).get? a = some ({ cls := .ref C, dict := none, data := .fields #[.ref hp.objs.size, .none, .none, .none, .bool false, .none] } : Obj) := Heap.get?_update_self _ (Heap.get?_push_of_some _ ho) rfl
  refine wpAny_call (init_told T.eb hT hC ho hl (h hp.objs.size _ fr (Inv.write (t' := tk) (x := a) (e := a) (o := exm a C hp.objs.size none) I1 (by rw [upd_ne na, e]; exact True.intro) (.inl rfl) (fun b o hb z => ?_) ⟨_, h2⟩ (exm_ok h2))))
  exact (Heap.get?_update_other _ _ (Ne.symm hb)).trans z
/-- a.f = u, the first field -/
theorem field_st {E : Value → Shared → Prop} {Q : Unit → Shared → Prop} (T : XcC X.K C B nI iI bmB) (I : Inv X pins σ H s) (e : H a = some (exm a C t none)) (hno : PySem.W.takerIn X.K C f = some none) (ry : RelV y u)
    (h : ∀ dx s', H dx = none → dx ≠ a → Inv X pins σ (upd (upd H dx (exd dx [(f, y)])) a (exm a C t (some dx))) s' → Q () s') : wpAny (model X.prog X.w) X.A (setAttr (.ref a) f u) Q E s := by
  obtain ⟨nm, N, qn, bs, bm, hdct, sn, sub, ab, col, dd, k0, k1, k2, k3, k5, hC, hT⟩ := PySem.W.excInit_of I.kIn T.ei
  have ho := exm_at I.hok e
  obtain ⟨cd, hc, hcd⟩ := PySem.W.any_some T.hd
  obtain ⟨hp, g, d, tk, os⟩ := s
  have ha : a < hp.objs.size := Heap.lt_size ho
  have fr : H hp.objs.size = none := I.hok.fresh (Nat.le_refl _)
  have na : a ≠ hp.objs.size := Nat.ne_of_lt ha
  refine PySem.W.set_plain I.kIn (od := none) ⟨ho, rfl, rfl, trivial⟩ T.sa ?_
  refine PySem.W.osa_openX (od := none) T.sb I.kIn ⟨ho, rfl, rfl, trivial⟩ T.eo hno fun b => ?_
  refine wpAny_bind (wpAny_pure (wpAny_bind (PySem.W.instanceDict_exc ho (PySem.W.looks_clsIn I.kIn hc) hcd ?_)))
  show wpAny _ _ (Builtin.ObjectAttr.storeInDict hp.objs.size (.str f tk) f u) _ _ _
  have g1 : (hp.push (PySem.W.dictOf [] 0)).get? a = some ({ cls := .ref C, dict := none, data := .fields #[.ref t, .none, .none, .none, .bool false, .none] } : Obj) := Heap.get?_push_of_some _ ho
  have g2 : ((hp.push (PySem.W.dictOf [] 0)).update a fun o => { o with dict := some hp.objs.size }).get? a = some ({ cls := .ref C, dict := some hp.objs.size, data := .fields #[.ref t, .none, .none, .none, .bool false, .none] } : Obj) := Heap.get?_update_self _ g1 rfl
  have d1 : (hp.push (PySem.W.dictOf [] 0)).get? hp.objs.size = some (PySem.W.dictOf [] 0) := Heap.get?_push_at rfl rfl
  have d2 : ((hp.push (PySem.W.dictOf [] 0)).update a fun o => { o with dict := some hp.objs.size }).get? hp.objs.size = some (PySem.W.dictOf [] 0) := (Heap.get?_update_other _ _ na).trans d1
  have n1 : (hp.push (PySem.W.dictOf [] 0)).Ns1 hp.objs.size (fun _ => none) := Heap.Ns1.of_empty ⟨_, #[], _, d1, rfl, fun e he => absurd he (by simp), fun _ => rfl⟩
  have I1 := I.laid (t' := tk + 1) (a := hp.objs.size) (o := exd hp.objs.size []) (h' := hp.push (PySem.W.dictOf [] 0)) (fun b o z => Heap.get?_push_of_some _ z) (Nat.le_refl _) (exd_ok n1 fun _ => True.intro)
  have I2 := Inv.write (t' := tk + 1) (x := a) (e := a) (o := exm a C t (some hp.objs.size)) (h' := (hp.push (PySem.W.dictOf [] 0)).update a fun o => { o with dict := some hp.objs.size }) I1 (by rw [upd_ne na, e]; exact True.intro) (.inl rfl) (fun b o hb z => (Heap.get?_update_other _ _ (Ne.symm hb)).trans z) ⟨_, g2⟩ (exm_ok g2)
  refine HandSPX.store_in_new ⟨_, #[], _, d2, rfl, fun e he => absurd he (by simp), fun _ => rfl⟩ fun h' tk' hn hs => ?_
  have nd : hp.objs.size ≠ a := Ne.symm na
  obtain ⟨od, _, _, hod, _⟩ := id hn
  have I3 := Inv.write (t' := tk') (x := hp.objs.size) (e := hp.objs.size) (o := exd hp.objs.size [(f, y)]) (h' := h') I2 (by rw [upd_ne nd, upd_same]; exact True.intro) (.inl rfl) (fun b o hb z => (hs.2 b hb).trans z) ⟨_, hod⟩ (exd_ok hn (relO_put (fs := []) ry fun _ => True.intro))
  refine h hp.objs.size _ fr nd ?_
  have eH : upd (upd (upd H hp.objs.size (exd hp.objs.size [])) a (exm a C t (some hp.objs.size))) hp.objs.size (exd hp.objs.size [(f, y)]) = upd (upd H hp.objs.size (exd hp.objs.size [(f, y)])) a (exm a C t (some hp.objs.size)) := by
    rw [upd_comm na, upd_upd]
  rw [← eH]
  exact I3
end
end DX

namespace DX
open PySem PySem.Spec PyProof.Rows L2
/-! ### B.__init__(self, 'text'), self.f = e, in the body of an own __init__ -/
/-- what stands at B in B.__init__: an own class without an __init__ of its own, or a built-in one; the call goes to iI -/
structure Bi (K : PySem.W.Frag) (mg : Str → Option Value) (b : Str) (iI : String) : Prop where
  ex : (∃ Cb : Addr, mg b = some (.ref Cb) ∧ PySem.W.readsIn K Cb (.type "type") = true ∧ PySem.W.specialIn K (.ref Cb) "__getattribute__" = some (some (.builtin "type.__getattribute__")) ∧ PySem.W.findCls K (.ref Cb) (.type "type") "__init__" = some (.val (.builtin iI))) ∨
    (∃ T : String, mg b = none ∧ b ≠ "__name__" ∧ bootBuiltins b = some (.type T) ∧ typeOf (.type T) = pure (.type "type") ∧ Manifest.isStub T = false ∧ PySem.W.findCls K (.type T) (.type "type") "__init__" = some (.val (.builtin iI)))
def tBi (K : PySem.W.Frag) (iI : String) (ta : TA) : TE := fun σ H Q => ta σ H fun vs H1 => ∃ (a C t0 : Addr) (ws : List V) (B nI : String) (bmB : List Value), vs = .ref a :: ws ∧ ws.length ≤ 1000 ∧ XcC K C B nI iI bmB ∧ H1 a = some (exm a C t0 none) ∧
  ∀ t, H1 t = none → Q .non (upd (upd H1 t (.tup ws)) a (exm a C t none))
def tFs (K : PySem.W.Frag) (f : Str) (to te : TE) : TS := fun D σ H => te σ H fun y H1 => to σ H1 fun x H2 => ∃ (a C t : Addr) (B nI iI : String) (bmB : List Value), x = .ref a ∧ XcC K C B nI iI bmB ∧ PySem.W.takerIn K C f = some none ∧ H2 a = some (exm a C t none) ∧
  ∀ dx, H2 dx = none → dx ≠ a → D.nx σ (upd (upd H2 dx (exd dx [(f, y)])) a (exm a C t (some dx)))
section
variable {X : Cx} {o e : Expr} {es : List Expr} {to te : TE} {ta : TA} {f b : Str} {p p' p1 p2 pos : Pos} {iI : String}
theorem pe_bi {pl : Sem Bool} (hg : Gl X b) (W : Bi X.K X.mg b iI) (hdb : (b == ("__debug__" : Str)) = false) (hh : PySem.W.handedIn (.builtin iI) = true) (ha : PA X (e :: es) ta)
    (hc : eval (.Call (.Attribute (.Name b p1) "__init__" p2) (e :: es) [] pos) X.env = (do
      let ov ← eval (.Name b p1) X.env
      standAt p2.atName
      let (fn, first) ← holding [ov] (getMethod ov "__init__" pl)
      callWith pos fn first (backTo pos (starEach (e :: es) X.env)) (backToKw pos (keywordEach [] X.env))) := by rfl)
    (he : starEach (e :: es) X.env = (false, eval e X.env) :: starEach es X.env := by rfl) (hpl : (backTo pos (starEach es X.env)).any (·.1) = false := by rfl) :
    PE X (.Call (.Attribute (.Name b p1) "__init__" p2) (e :: es) [] pos) (tBi X.K iI ta) := by
  refine ⟨fun pins s σ H Q I h => ?_⟩
  have go : ∀ s0 : Shared, Inv X pins σ H s0 → wpAny (model X.prog X.w) X.A (callWith pos (Value.builtin iI) [] (backTo pos (starEach (e :: es) X.env)) []) (EP X pins σ Q) X.xe s0 := fun s0 I0 =>
    PyProof.Rows.callWith_method1 (thn (ha.run pos pins _ σ H _ I0 h) fun us s1 ⟨vs, H1, I1, r1, a, C, t0, ws, B, nI, bmB, ev, hl, T, ea, q⟩ => by
      subst ev
      cases r1 with
      | @cons _ u0 _ ur ra rw' =>
        obtain rfl : u0 = Value.ref a := ra
        exact init_st T I1 ea rw' (by rw [← Paired.length rw', sizeLine_eq]; omega) fun t1 s' n J => ⟨.non, _, J, rfl, q t1 n⟩) he hpl
  rcases W.ex with ⟨Cb, hm, hr, hs, hf⟩ | ⟨T, hm, hn, hb, ht, hst, hf⟩
  · refine PySem.W.methodCall_KW (ld_glob I hg hm ?_ hdb) hc
    exact PySem.W.method_cls I.kIn hs (PySem.W.cls_value I.kIn hr hf hh (go _ (I.tok _)))
  · refine PySem.W.methodCall_KW (ld_blt I hg hm hb ?_ hn hdb) hc
    obtain ⟨m, fr⟩ := I.fr
    exact PySem.W.method_type fr I.ok.mod.kin ht hst hf hh (go _ (I.tok _))
theorem ps_fs (ho : PE X o to) (he : PE X e te) (hs : swapsWith e (some (.Attribute o f p')) pos.line X.env = pure false := by rfl) : PS X (.Assign [.Attribute o f p'] e pos) (tFs X.K f to te) := by
  refine ⟨fun pins s σ H D I h => ?_⟩
  refine plainObj_wpAny_Assign_Attribute (thn (he.run pins s σ H _ I h) fun v s1 ⟨y, H1, I1, r1, q1⟩ => thn (ho.run pins s1 σ H1 _ I1 q1) fun u s2 ⟨x, H2, I2, r2, a, C, t, B, nI, iI, bmB, ex, T, hno, ea, q⟩ => ?_) hs
  subst ex
  obtain rfl : u = Value.ref a := r2
  exact field_st T I2 ea hno r1 fun dx s' n ne J => ⟨σ, _, J, q dx n ne⟩
end
/-- an own __init__: the text msg is handed on, the thing is stored as f -/
def spI (C : Addr) (f msg : Str) : Sp := fun vs H Q _ => ∃ (a t0 : Addr) (y : V) (H1 : Hp), vs = [.ref a, y] ∧ H1 a = none ∧ H = upd H1 a (exm a C t0 none) ∧
  ∀ t dx, H1 t = none → H1 dx = none → t ≠ a → dx ≠ a → dx ≠ t → Q .non (upd (upd (upd H1 t (.tup [.str msg])) dx (exd dx [(f, y)])) a (exm a C t (some dx)))
/-- an own exception class of the text -/
structure XKl (K : PySem.W.Frag) (C : Addr) (f msg : Str) (fI : Addr) (fd : FuncData) : Prop where
  xc : ∃ B nI iI bmB, XcC K C B nI iI bmB
  iC : PySem.W.findIn K (.ref C) "__init__" = some (some (.ref fI))
  tI : PySem.W.typeIn K (.ref fI) = some (.type "function")
section
variable {P : Program} {w : World} {K : PySem.W.Frag} {mg : Str → Option Value} {base : Heap}
theorem ok_init {C f0 : Addr} {fd : FuncData} {qual pn f b msg : Str} {params : Arguments} {body : List Stmt} {sc : Scope} {dvs : List V} {kws : List (Str × V)} {p1 p2 p3 p4 p5 p6 p7 p8 p9 p10 : Pos} {j : Nat} {B nI iI : String} {bmB : List Value}
    (F : FunD K "__init__" qual params body sc dvs kws f0 fd) (S : FnScope ["self", pn] ["self", pn] sc) (hB : body = [.Expr (.Call (.Attribute (.Name b p1) "__init__" p2) [.Name "self" p3, .Constant (.str msg) j p4] [] p5) p6, .Assign [.Attribute (.Name "self" p7) f p8] (.Name pn p9) p10])
    (T : XcC K C B nI iI bmB) (W : Bi K mg b iI) (ht : PySem.W.takerIn K C f = some none) (hg : sc.names.lookup b = some .globalImplicit) (h1 : sc.names.lookup ("self" : Str) = some .local) (h2 : sc.names.lookup pn = some .local) (hh : PySem.W.handedIn (.builtin iI) = true) (hdb : (b == ("__debug__" : Str)) = false)
    (hp1 : (pn == ("__debug__" : Str)) = false) (hp2 : (pn == ("__classdict__" : Str)) = false) (pl : Env → Sem Bool)
    (hc : ∀ env, eval (.Call (.Attribute (.Name b p1) "__init__" p2) [.Name "self" p3, .Constant (.str msg) j p4] [] p5) env = (do
      let ov ← eval (.Name b p1) env
      standAt p2.atName
      let (fn, first) ← holding [ov] (getMethod ov "__init__" (pl env))
      callWith p5 fn first (backTo p5 (starEach [.Name "self" p3, .Constant (.str msg) j p4] env)) (backToKw p5 (keywordEach [] env)))) : FnOk P w K mg base CX0 1 f0 fd ["self", pn] (spI C f msg) := by
  subst hB
  refine F.ok S (fun vs H Q E h => ?_) (fun cdv A outer s H vs Q E hr h => ?_)
  · obtain ⟨a, t0, y, H1, rfl, _⟩ := h
    rfl
  · obtain ⟨a, t0, y, H1, rfl, n1, rfl, q⟩ := h
    refine ⟨_, pss_cons (ps_expr (pe_bi hg W hdb hh (pa_cons (pe_var (i := 0) rfl (.inl h1) (by decide) (by decide)) (pa_cons pe_str pa_nil)) (hc _))) (pss_one (ps_fs (pe_var (i := 0) rfl (.inl h1) (by decide) (by decide)) (pe_var (i := 1) rfl (.inl h2) hp1 hp2))), ?_⟩
    refine ⟨_, rfl, ?_⟩
    refine ⟨a, C, t0, [.str msg], B, nI, bmB, rfl, Nat.le_of_ble_eq_true rfl, T, upd_same, fun t htn => ?_⟩
    have nta : t ≠ a := fun z => by
      rw [z, upd_same] at htn
      cases htn
    rw [upd_ne nta] at htn
    refine ⟨y, rfl, .ref a, rfl, a, C, t, B, nI, iI, bmB, rfl, T, ht, upd_same, fun dx hdx nda => ?_⟩
    rw [upd_ne nda] at hdx
    have ndt : dx ≠ t := fun z => by
      rw [z, upd_same] at hdx
      cases hdx
    rw [upd_ne ndt, upd_ne nda] at hdx
    have z := q t dx htn hdx nta nda ndt
    have eH : upd (upd (upd (upd (upd H1 a (exm a C t0 none)) t (.tup [.str msg])) a (exm a C t none)) dx (exd dx [(f, y)])) a (exm a C t (some dx)) = upd (upd (upd H1 t (.tup [.str msg])) dx (exd dx [(f, y)])) a (exm a C t (some dx)) := by
      rw [upd_comm (Ne.symm nda), upd_upd, upd_comm (Ne.symm nta), upd_comm (Ne.symm nda), upd_upd]
    show Q V.non _
    rw [eH]
    exact z
end
end DX

namespace DX
open PySem PySem.Spec PySem.W PySem.Calls PyProof.Rows
/-- what a class says so that its instances can be asked -/
structure XqC (K : Frag) (D : Addr) : Prop where
  ga : findIn K (.ref D) "__getattribute__" = some (some (.builtin "BaseException.__getattribute__"))
  gg : findIn K (.ref D) "__getattr__" = some none
  sb : subIn K (.ref D) (.type "BaseException") = some true
  hd : hasDictIn K D = true
  cl : findIn K (.ref D) "__class__" = some (some (.builtin "object.__class__"))
  ob : mroIn K D (.type "object") = some true
  st : findIn K (.ref D) "__str__" = some (some (.builtin "BaseException.__str__"))
structure XqG (K : Frag) : Prop where
  hn : specialIn K (.builtin "object.__class__") "__get__" = some (some (.builtin "getset_descriptor.__get__"))
  ht : takesIn K (.builtin "object.__class__") = some true
section
variable {pg : Program} {w : World} {Ar : Around} {Er : Value → Shared → Prop} {s : Shared} {K : Frag} {x D : Addr} {ox od : Obj}
theorem cls_of {Q : Option Value → Shared → Prop} (T : XqC K D) (G : XqG K) (X : K.In s.heap) (I : InstAt s.heap x ox D (some od)) (h : Q (some (.ref D)) { s with toks := s.toks + 1 }) : wpAny (model pg w) Ar (getAttr? (.ref x) "__class__") Q Er s := by
  have hf : findObj K D (some od) "__class__" = some (.bind (.builtin "getset_descriptor.__get__") (.builtin "object.__class__")) := findObj_data (by obtain ⟨z, hz, _⟩ := any_some T.hd; rw [hz]; rfl) T.cl G.hn G.ht
  obtain ⟨hp, gs, dr, tk, ost⟩ := s
  have l0 := I.type (M := model pg w)
  have l1 := looks_findIn (M := model pg w) X T.ga
  have l2 := looks_findIn (M := model pg w) X T.gg
  have l3 := looks_find (M := model pg w) X I hf
  have isB : Looks (model pg w) hp (isInstance (.ref x) (.type "BaseException")) true := l0.andThen (looks_subIn X T.sb)
  have b2 : (Value.builtin "BaseException.__getattribute__" == Value.builtin "object.__getattribute__") = false := by decide +kernel
  have b1 : (onTheHeap (Value.ref D) && Value.builtin "BaseException.__getattribute__" == Value.builtin "object.__getattribute__") = false := (by rw [b2]; rfl)
  unfold getAttr? getAttrBy? getAttrBy
  refine wpAny_bind (wpAny_mkText (wpAny_bind (wpAny_attempt (wpAny_holding (wpAny_bind (l0.at (wpAny_bind (l1.at ?_))))))))
  show wpAny _ _ (if (onTheHeap (Value.ref D) && Value.builtin "BaseException.__getattribute__" == Value.builtin "object.__getattribute__") = true then _ else _) _ _ ⟨hp, gs, dr, _, ost⟩
  rw [b1, if_neg Bool.false_ne_true]
  unfold getAttrByItsOwn hookBefore; refine wpAny_bind ?_
  rw [if_pos (show onTheHeap (Value.ref D) = true from rfl)]; refine l2.at (wpAny_bind (wpAny_attempt (wpAny_holding ?_)))
  unfold callGetattribute
  rw [show (false && onTheHeap (Value.builtin "BaseException.__getattribute__")) = false from rfl, if_neg Bool.false_ne_true]
  unfold boundAndCalled
  rw [PySem.F.excAttr_ValueError.ga.bind (.ref x)]; refine wpAny_bind (wpAny_pure ?_)
  show wpAny _ _ (call (.builtin "BaseException.__getattribute__") [.ref x, .str "__class__" tk]) _ _ ⟨hp, gs, dr, _, ost⟩
  refine wpAny_call (codeAny_call_builtin PySem.F.excAttr_ValueError.ga.plain PySem.F.entry_bexc_ga (@check_slot (model pg w) _ _ ⟨hp, gs, dr, tk + 1, ost⟩ "BaseException.__getattribute__" "BaseException" "__getattribute__" (.ref x) [.str "__class__" tk] [] _ (by decide +kernel) (by decide +kernel) isB (PySem.F.args_bexc_ga (.ref x) (.str "__class__" tk)) ?_))
  unfold Builtin.«object.__getattribute__»
  refine wpAny_bind (wpAny_of_eq (a := ((Value.ref x : Value), [Value.str "__class__" tk])) (by first | rfl | (simp only [slotArgs]; rfl)) ?_)
  refine wpAny_bind (wpAny_pure (wpAny_bind (l0.at (wpAny_bind (l3.at ?_)))))
  show wpAny _ _ (holding [Value.builtin "object.__class__"] (call (.builtin "getset_descriptor.__get__") [.builtin "object.__class__", .ref x, .ref D]) >>= ret) _ _ ⟨hp, gs, dr, _, ost⟩
  refine wpAny_bind (wpAny_holding (wpAny_call (class_get (s := ⟨hp, gs, dr, tk + 1, ost⟩) (ox := ox) (od := some od) X I T.ob (wpAny_pure ?_))))
  show wpAny _ _ (handedOut (.ref D)) _ _ ⟨hp, gs, dr, _, ost⟩
  rw [handedOut_of (v := .ref D) rfl]
  first
    | exact wpAny_pure (wpAny_pure h)
    | exact wpAny_pure h
    | exact wpAny_pure (wpAny_bind (wpAny_pure (wpAny_pure h)))
theorem kitx (T : XqC K D) (G : XqG K) : KitX K (.ref x) (.ref D) (fun h => InstAt h x ox D (some od)) := by
  obtain ⟨cdD, hcD, _⟩ := any_some T.hd
  have hl : ∃ c d cd sl, K.lookup D = some ⟨c, d, .cls cd, sl⟩ := by
    unfold clsIn at hcD
    split at hcD
    · rename_i c d cd sl ho
      exact ⟨c, d, cd, sl, ho⟩
    · cases hcD
  obtain ⟨c, d, cd, sl, ho⟩ := hl
  refine ⟨fun _ _ _ I => I.type, fun _ _ X _ A' Q' E' s' k q => ?_, fun h tp dd its n sl2 X htp => Bool.eq_false_iff.mpr fun q => ?_, fun X I k => cls_of T G X I k⟩
  · unfold isType loadHead
    exact wpAny_bind (wpAny_loadPart (k _ _ (X _ _ ho)) (wpAny_pure q))
  · have e : D = tp := Value.ref.inj (beq_iff_eq.mp q)
    subst e
    cases (X _ _ ho).symm.trans htp
end
end DX

namespace DX
open PySem PySem.Spec PyProof.Rows L2
/-! ### exceptions that were caught; what is neither a tuple nor a table nor a code object -/
/-- at e an exception of the class at C that was raised and caught, its dict at d -/
def exk (e C d : Addr) : HO := .ext fun h => ∃ (oe : Obj) (vs : Array Value), h.get? e = some oe ∧ Zc (.ref C) (some d) oe ∧ oe.data = .fields vs
theorem exk_ok {P : Program} {w : World} {H : Hp} {h : Heap} {e C d : Addr} {oe : Obj} {vs : Array Value} (he : h.get? e = some oe) (hz : Zc (.ref C) (some d) oe) (hd : oe.data = .fields vs) : ObjOk P w H h e (exk e C d) :=
  ⟨⟨oe, vs, he, hz, hd⟩, ⟨oe, he⟩, fun _ _ ⟨o, v, a, b, c⟩ k => ⟨o, v, k _ a, b, c⟩⟩
theorem exk_at {P : Program} {w : World} {H : Hp} {h : Heap} {e C d : Addr} (ok : HOk P w H h) (q : H e = some (exk e C d)) : ∃ (oe : Obj) (vs : Array Value), h.get? e = some oe ∧ Zc (.ref C) (some d) oe ∧ oe.data = .fields vs := by
  have x : ObjOk P w H h e (.ext fun h => ∃ (oe : Obj) (vs : Array Value), h.get? e = some oe ∧ Zc (.ref C) (some d) oe ∧ oe.data = .fields vs) := ok e _ q
  exact x.1
/-- a heap with this one object at a -/
theorem heap_with (a : Addr) (o : Obj) (h : o.data ≠ .freed) : ∃ hp : Heap, hp.get? a = some o := by
  refine ⟨⟨(Array.replicate a o).push o, {}⟩, ?_⟩
  unfold Heap.get?
  have e : ((Array.replicate a o).push o)[a]? = some o := by
    rw [Array.getElem?_push]
    simp
  obtain ⟨c, d, dt, sl⟩ := o
  simp only [e]
  cases dt <;> first | rfl | exact absurd rfl h
theorem ext_inj {φ ψ : Heap → Prop} (e : HO.ext φ = HO.ext ψ) (h : Heap) : φ h ↔ ψ h := by
  cases e
  exact Iff.rfl
theorem exm_code {e C t : Addr} {d : Option Addr} (q : Str) : exm e C t d ≠ LamX.CodeO e q := fun z => by
  obtain ⟨h, eh⟩ := heap_with e { cls := .ref C, dict := d, data := .fields #[.ref t, .none, .none, .none, .bool false, .none] } (by intro z; cases z)
  obtain ⟨oc, vs, t', e1, e2, e3⟩ := (ext_inj z h).mp eh
  rw [eh] at e1
  cases e1
  cases e2
  simp at e3
theorem exk_code {e C d : Addr} (q : Str) : exk e C d ≠ LamX.CodeO e q := fun z => by
  obtain ⟨h, eh⟩ := heap_with e { cls := .ref C, dict := some d, data := .fields #[] } (by intro z; cases z)
  obtain ⟨oc, vs, t', e1, e2, e3⟩ := (ext_inj z h).mp ⟨_, #[], eh, ⟨rfl, rfl⟩, rfl⟩
  rw [eh] at e1
  cases e1
  cases e2
  simp at e3
theorem exd_code {a : Addr} {fs : List (Str × V)} (q : Str) : exd a fs ≠ LamX.CodeO a q := fun z => by
  obtain ⟨h, eh⟩ := heap_with a { cls := .none, data := .fields #[.none, .str q 0] } (by intro z; cases z)
  obtain ⟨mA, ⟨o, es, ep, e1, e2, _⟩, _⟩ := (ext_inj z h).mpr ⟨_, _, 0, eh, rfl, rfl⟩
  rw [eh] at e1
  cases e1
  cases e2
/-- o at a may be written, or is no part of what lambdas lean on -/
structure Tr (a : Addr) (o : HO) : Prop where
  tup : ∀ xs, o ≠ .tup xs
  tbl : ∀ ps, o ≠ .tbl ps
  cod : ∀ q, o ≠ LamX.CodeO a q
  fz : ∀ b xs, o ≠ .frz b (.tup xs)
theorem Tr.lst {a : Addr} {xs : List V} : Tr a (.lst xs) := ⟨fun _ z => (nomatch z), fun _ z => (nomatch z), fun _ z => (by unfold LamX.CodeO at z; cases z), fun _ _ z => (nomatch z)⟩
theorem Tr.dK {a : Addr} {xs : List (Key × V)} : Tr a (.dK xs) := ⟨fun _ z => (nomatch z), fun _ z => (nomatch z), fun _ z => (by unfold LamX.CodeO at z; cases z), fun _ _ z => (nomatch z)⟩
theorem Tr.dT {a : Addr} {xs : List (List Key × V)} : Tr a (.dT xs) := ⟨fun _ z => (nomatch z), fun _ z => (nomatch z), fun _ z => (by unfold LamX.CodeO at z; cases z), fun _ _ z => (nomatch z)⟩
theorem Tr.ins {a C dx : Addr} {xs : List (Str × V)} : Tr a (.ins C dx xs) := ⟨fun _ z => (nomatch z), fun _ z => (nomatch z), fun _ z => (by unfold LamX.CodeO at z; cases z), fun _ _ z => (nomatch z)⟩
theorem Tr.frz {a : Addr} {o : Obj} {u : HO} (h : ∀ xs, u ≠ .tup xs) : Tr a (.frz o u) := ⟨fun _ z => (nomatch z), fun _ z => (nomatch z), fun _ z => (by unfold LamX.CodeO at z; cases z), fun _ xs z => (by cases z; exact h xs rfl)⟩
theorem Tr.own {a b : Addr} : Tr a (.own b) := ⟨fun _ z => (nomatch z), fun _ z => (nomatch z), fun _ z => (by unfold LamX.CodeO at z; cases z), fun _ _ z => (nomatch z)⟩
theorem Tr.set {a : Addr} {S : Int → Bool} {n : Nat} : Tr a (.set S n) := ⟨fun _ z => (nomatch z), fun _ z => (nomatch z), fun _ z => (by unfold LamX.CodeO at z; cases z), fun _ _ z => (nomatch z)⟩
theorem Tr.rng {a : Addr} {i j : Int} : Tr a (.rng i j) := ⟨fun _ z => (nomatch z), fun _ z => (nomatch z), fun _ z => (by unfold LamX.CodeO at z; cases z), fun _ _ z => (nomatch z)⟩
theorem Tr.exm {a C t : Addr} {d : Option Addr} : Tr a (exm a C t d) := ⟨exm_tup, fun ps z => (by have z' : HO.ext _ = HO.tbl ps := z; cases z'), exm_code, fun b xs z => (by have z' : HO.ext _ = HO.frz b (.tup xs) := z; cases z')⟩
theorem Tr.exk {a C d : Addr} : Tr a (exk a C d) := ⟨fun ps z => (by have z' : HO.ext _ = HO.tup ps := z; cases z'), fun ps z => (by have z' : HO.ext _ = HO.tbl ps := z; cases z'), exk_code, fun b xs z => (by have z' : HO.ext _ = HO.frz b (.tup xs) := z; cases z')⟩
theorem Tr.xd {a : Addr} {fs : List (Str × V)} : Tr a (exd a fs) := ⟨fun ps z => (by have z' : HO.ext _ = HO.tup ps := z; cases z'), fun ps z => (by have z' : HO.ext _ = HO.tbl ps := z; cases z'), exd_code, fun b xs z => (by have z' : HO.ext _ = HO.frz b (.tup xs) := z; cases z')⟩
end DX

/-! Lambdas with one parameter that has a written int as its default: made, called without arguments. -/
namespace DX
open PySem PySem.Spec PyProof.Rows L2
/-- the lambda's function, its defaults at dV -/
abbrev lfn (qu : Str) (pa : Arguments) (bo : Expr) (sc : Scope) (cl : List (Str × Addr)) (pm cv tv dV : Value) : FuncData := { PySem.W.kla_fn "<lambda>" qu pa bo sc cl pm cv tv with defaults := dV }
abbrev lob (qu : Str) (pa : Arguments) (bo : Expr) (sc : Scope) (cl : List (Str × Addr)) (pm cv tv dV : Value) : Obj := { cls := .type "function", data := .func (lfn qu pa bo sc cl pm cv tv dV) }
abbrev tup1 (i : Int) (t : Tok) : Obj := { cls := .type "tuple", data := .seq ([Value.int i t]).toArray }
section
variable {Mo : Model} {Ar : Around} {Er : Value → Shared → Prop} {st : Shared} {qu : Str} {pa : Arguments} {bo : Expr} {sc : Scope} {ev : Env} {co Pt : Addr} {tb : Array Value} {at_ : Pos} {fl : Nat} {gm : Str → Option Value}
  {cl : List (Str × Addr)} {Qv : Value → Shared → Prop} {dV : Value}
theorem tail_new (hcl : closureFor sc ev = pure cl) (hgl : ev.globals = mainGlobals) (hns : st.heap.Ns mainGlobals gm) (hco : ev.code = .ref co) (hC : PySem.W.CodeHd st.heap co Pt) (hPt : st.heap.get? Pt = some { cls := .none, data := .fields tb }) (htr : TriplesOk tb.toList)
    (hno : codeAmong at_ tb.toList = none) (hne : mainGlobals ≠ Pt) (hbt : st.heap.BuiltinsAt gm Pt)
    (go : ∀ c' tv h' tk, Heap.ExtBut Pt st.heap h' → st.heap.objs.size ≤ c' → c' < h'.objs.size → h'.CodeRec (.ref c') qu → h'.get? Pt = some { cls := .none, data := .fields (tb ++ #[rawInt at_.line, rawInt at_.col, .ref c']) } →
      Qv (.ref h'.objs.size) { st with heap := h'.push (lob qu pa bo sc cl ((gm "__name__").getD .none) (.ref c') tv dV), toks := tk }) :
    wpAny Mo Ar (makeTail "<lambda>" qu pa (.expr bo) sc ev dV .none none at_ fl) Qv Er st := by
  obtain ⟨bm, ob, b1, b2, _, b3, b4, b5, b6, b7⟩ := hbt
  unfold makeTail
  rw [hcl, hgl]
  refine wpAny_bind (wpAny_pure ?_)
  cases cl with
  | nil =>
    simp only [List.isEmpty_nil, if_true]
    refine wpAny_bind (wpAny_pure ?_)
    refine wpAny_bind (wpAny_functionCodeX hco (hC.code hPt htr) (hC.tab hPt) hno fun c' h' tk x1 x2 x3 _ x4 x5 _ => ?_)
    refine wpAny_bind (wpAny_builtinsFor (hns.extBut x1 hne) b1 b2 (x1 _ _ b3 b4) b5 b6 b7 ?_)
    refine wpAny_bind (wpAny_nsGet (hns.extBut x1 hne) ?_)
    exact wpAny_bind (wpAny_pure (wpAny_newObj_type (go c' .none h' tk x1 x2 x3 x4 x5.2) (by size_fits)))
  | cons y ys =>
    simp only [List.isEmpty_cons, Bool.false_eq_true, if_false]
    refine wpAny_bind (wpAny_newTextTuple ?_)
    have up : ∀ (T : Obj) b o, st.heap.get? b = some o → (st.heap.push T).get? b = some o := fun T b o z => Heap.get?_push_of_some _ z
    refine wpAny_bind (wpAny_functionCodeX hco ((hC.keeps (up _)).code (up _ _ _ hPt) htr) ((hC.keeps (up _)).tab (up _ _ _ hPt)) hno fun c' h' tk x1 x2 x3 _ x4 x5 _ => ?_)
    have y1 : Heap.ExtBut Pt st.heap h' := fun b o n z => x1 b o n (up _ b o z)
    have y2 : st.heap.objs.size ≤ c' := Nat.le_trans (by rw [Heap.size_push]; omega) x2
    refine wpAny_bind (wpAny_builtinsFor ((hns.push _).extBut x1 hne) b1 b2 (y1 _ _ b3 b4) b5 b6 b7 ?_)
    refine wpAny_bind (wpAny_nsGet ((hns.push _).extBut x1 hne) ?_)
    exact wpAny_bind (wpAny_pure (wpAny_newObj_type (go c' _ h' tk y1 y2 x3 x4 x5.2) (by size_fits)))
theorem tail_hit {cv : Value} (hcl : closureFor sc ev = pure cl) (hgl : ev.globals = mainGlobals) (hns : st.heap.Ns mainGlobals gm) (hco : ev.code = .ref co) (hC : PySem.W.CodeHd st.heap co Pt) (hPt : st.heap.get? Pt = some { cls := .none, data := .fields tb }) (htr : TriplesOk tb.toList)
    (hit : codeAmong at_ tb.toList = some cv) (hbt : st.heap.BuiltinsAt gm Pt)
    (go : ∀ (tv : Value) (h' : Heap) (tk : Tok), (∀ b o, st.heap.get? b = some o → h'.get? b = some o) → st.heap.objs.size ≤ h'.objs.size →
      Qv (.ref h'.objs.size) { st with heap := h'.push (lob qu pa bo sc cl ((gm "__name__").getD .none) cv tv dV), toks := tk }) :
    wpAny Mo Ar (makeTail "<lambda>" qu pa (.expr bo) sc ev dV .none none at_ fl) Qv Er st := by
  obtain ⟨bm, ob, b1, b2, _, b3, b4, b5, b6, b7⟩ := hbt
  unfold makeTail
  rw [hcl, hgl]
  refine wpAny_bind (wpAny_pure ?_)
  cases cl with
  | nil =>
    simp only [List.isEmpty_nil, if_true]
    refine wpAny_bind (wpAny_pure ?_)
    refine wpAny_bind (wpAny_functionCode_hit hco (hC.code hPt htr) hit ?_)
    refine wpAny_bind (wpAny_builtinsFor hns b1 b2 b4 b5 b6 b7 ?_)
    refine wpAny_bind (wpAny_nsGet hns ?_)
    exact wpAny_bind (wpAny_pure (wpAny_newObj_type (go .none st.heap st.toks (fun _ _ z => z) (Nat.le_refl _)) (by size_fits)))
  | cons y ys =>
    simp only [List.isEmpty_cons, Bool.false_eq_true, if_false]
    refine wpAny_bind (wpAny_newTextTuple ?_)
    have up : ∀ (T : Obj) b o, st.heap.get? b = some o → (st.heap.push T).get? b = some o := fun T b o z => Heap.get?_push_of_some _ z
    refine wpAny_bind (wpAny_functionCode_hit hco ((hC.keeps (up _)).code (up _ _ _ hPt) htr) hit ?_)
    refine wpAny_bind (wpAny_builtinsFor (hns.push _) b1 b2 (up _ _ _ b4) b5 b6 b7 ?_)
    refine wpAny_bind (wpAny_nsGet (hns.push _) ?_)
    have sz : ∀ T : Obj, st.heap.objs.size ≤ (st.heap.push T).objs.size := fun T => by rw [Heap.size_push]; omega
    exact wpAny_bind (wpAny_pure (wpAny_newObj_type (go _ _ st.toks (up _) (sz _)) (by size_fits)))
/-- the default is reckoned, laid into a tuple -/
theorem lam_eval {i : Int} {j : Nat} {cp : Pos} (hdef : defaultsOf pa ev = ([eval (.Constant (.int i) j cp) ev], []))
    (go : ∀ t, wpAny Mo Ar (makeTail "<lambda>" (ev.qual ++ "<lambda>") pa (.expr bo) sc ev (.ref st.heap.objs.size) .none none at_ at_.line) Qv Er { st with heap := st.heap.push (tup1 i t), toks := st.toks + 1 }) :
    wpAny Mo Ar (eval (.Lambda pa bo sc at_) ev) Qv Er st := by
  rw [arm_eval_Lambda, hdef]
  show wpAny Mo Ar (do let dv ← evalAll [eval (.Constant (.int i) j cp) ev]; let kdv ← holding dv (evalAllOpt []); makeFunction "<lambda>" (ev.qual ++ "<lambda>") pa (.expr bo) sc ev dv kdv [] at_ at_.line) Qv Er st
  refine wpAny_bind ?_
  show wpAny Mo Ar (do let v ← eval (.Constant (.int i) j cp) ev; return v :: (← holding [v] (evalAll []))) _ Er st
  refine wpAny_bind (wpAny_Constant_int ?_)
  refine wpAny_bind (wpAny_holding (wpAny_pure (wpAny_pure ?_)))
  refine wpAny_bind (wpAny_holding (wpAny_pure ?_))
  rw [makeFunction_eq]
  simp only [List.zip_nil_right, List.filterMap_nil, List.isEmpty_nil, List.isEmpty_cons, if_true, if_false, Bool.false_eq_true]
  refine wpAny_bind (wpAny_newTextTuple ?_)
  exact wpAny_bind (wpAny_pure (wpAny_bind (wpAny_pure (go _))))
end
end DX

namespace DX
open PySem PySem.Spec PyProof.Rows L2 LamX
/-- one parameter p; captured names and globals -/
structure LamP (p : Str) (sc scope : Scope) : Prop where
  kind : scope.kind = .function
  co : scope.isCoroutine = false
  gen : scope.isGenerator = false
  own : ∀ y ∈ scope.names, (y.2 = .local → y.1 = p) ∧ y.2 ≠ .cell
  has : scope.names.lookup p = some .local
  free : ∀ y ∈ scope.names, y.2 = .free → sc.names.lookup y.1 = some .cell ∨ sc.names.lookup y.1 = some .free
def lamPB (p : Str) (sc scope : Scope) : Bool :=
  decide (scope.kind = .function) && (!scope.isCoroutine && (!scope.isGenerator && (decide (scope.names.lookup p = some .local) && scope.names.all fun y => (!decide (y.2 = .local) || decide (y.1 = p)) && (!decide (y.2 = .cell) && (!decide (y.2 = .free) || (decide (sc.names.lookup y.1 = some .cell) || decide (sc.names.lookup y.1 = some .free)))))))
theorem lamP_by {p : Str} {sc scope : Scope} (h : lamPB p sc scope = true) : LamP p sc scope := by
  unfold lamPB at h
  simp only [Bool.and_eq_true, Bool.or_eq_true, Bool.not_eq_true', decide_eq_true_eq, decide_eq_false_iff_not, List.all_eq_true] at h
  obtain ⟨h1, h2, h3, h4, h5⟩ := h
  refine ⟨h1, h2, h3, fun y hy => ⟨fun e => ?_, (h5 y hy).2.1⟩, h4, fun y hy e => ?_⟩
  · exact (h5 y hy).1.elim (fun z => absurd e z) id
  · exact (h5 y hy).2.2.elim (fun z => absurd e z) id
section
variable {X : Cx} {pins : List (Addr × Obj)} {σ : L2.St} {H HZ : Hp} {s s1 : Shared} {p : Str}
theorem LamP.cells {scope : Scope} (L : LamP p X.env.scope scope) (ok : X.Ok) : ∀ y ∈ scope.names, y.2 = .free → ∃ c, X.env.cells.lookup y.1 = some c := fun y hy e => by
  rcases L.free y hy e with k | k
  · exact ok.has _ (.inl k)
  · exact ok.has _ (.inr k)
/-- all stays, tables grow -/
structure ExtT (H H' : Hp) : Prop where
  n : ExtN H H'
  t : ∀ a ps, H a = some (.tbl ps) → ∃ more, H' a = some (.tbl (ps ++ more))
theorem ExtT.refl (H : Hp) : ExtT H H := ⟨ExtN.refl H, fun a ps e => ⟨#[], by rw [Array.append_empty]; exact e⟩⟩
/-- the function object is made, the defaults stand at dV -/
theorem lam_core {T : List (Addr × Str)} {c P : Addr} {pa : Arguments} {bo : Expr} {scope : Scope} {pos : Pos} {fl : Nat} {dV : Value} {h1 : Heap} {t1 : Tok} {E : Value → Shared → Prop} {Q : Value → Shared → Prop} (I : Inv X pins σ H s) (up : ∀ b o, s.heap.get? b = some o → h1.get? b = some o) (hsz : s.heap.objs.size ≤ h1.objs.size)
    (TB : TabB X.base X.mg c P) (hc : X.env.code = .ref c) (hm : (P, X.env.qual ++ "<lambda>") ∈ T) (hu : ∀ p ∈ T, p.1 = P → p.2 = X.env.qual ++ "<lambda>") (hT : Tabs T H) (hfree : ∀ y ∈ scope.names, y.2 = .free → ∃ c, X.env.cells.lookup y.1 = some c)
    (gl : h1.Ns mainGlobals X.mg)
    (go : ∀ (f c' : Addr) (pm tv : Value) (H1 : Hp) (s' : Shared), Inv X pins σ H1 s' → ExtT H H1 → Tabs T H1 → s'.heap.get? f = some (lob (X.env.qual ++ "<lambda>") pa bo scope (cloFrom X.env.cells scope.names []) pm (.ref c') tv dV) →
      (∀ b o, b ≠ P → h1.get? b = some o → s'.heap.get? b = some o) → (∀ b, s.heap.objs.size ≤ b → b < h1.objs.size → H1 b = none) → H1 f = none → s.heap.objs.size ≤ f → H1 c' = some (CodeO c' (X.env.qual ++ "<lambda>")) → Q (.ref f) s') :
    wpAny (model X.prog X.w) X.A (makeTail "<lambda>" (X.env.qual ++ "<lambda>") pa (.expr bo) scope X.env dV .none none pos fl) Q E { s with heap := h1, toks := t1 } := by
  obtain ⟨ps, hP, ht, ha⟩ := hT _ hm
  have hP0 : s.heap.get? P = some { cls := .none, data := .fields ps } := I.hok P _ hP
  have bP : h1.BuiltinsAt X.mg P := TB.bm.keeps fun b o z => up b o (I.bk b o z)
  have cd : PySem.W.CodeHd h1 c P := (TB.code.keeps I.bk).keeps up
  cases hq : codeAmong pos ps.toList with
  | none =>
    refine tail_new (gm := X.mg) (co := c) (Pt := P) (tb := ps) (closure_ok hfree) I.ok.glob gl hc cd (up _ _ hP0) ht hq TB.gP bP fun c' tv h' tk x1 x2 x3 x4 x5 => ?_
    have x2 : h1.objs.size ≤ c' := x2
    have x3 : c' < h'.objs.size := x3
    obtain ⟨c2, oc, vs, t2, e2, hoc, hd, hv⟩ := x4
    cases e2
    have x2' : s.heap.objs.size ≤ c' := Nat.le_trans hsz x2
    have nC : H c' = none := I.hok.fresh x2'
    have kk : ∀ b o, b ≠ P → h1.get? b = some o → (h'.push (lob (X.env.qual ++ "<lambda>") pa bo scope (cloFrom X.env.cells scope.names []) ((X.mg "__name__").getD .none) (.ref c') tv dV)).get? b = some o := fun b o hb e => Heap.get?_push_of_some _ (x1 b o hb e)
    have I1 := inv_table (t' := tk) (more := #[rawInt pos.line, rawInt pos.col, .ref c']) I hP (fun b o hb e => kk b o hb (up b o e)) (Heap.get?_push_of_some _ x5) x2' ⟨oc, vs, t2, Heap.get?_push_of_some _ hoc, hd, hv⟩
    have hE : ExtN H (upd (upd H P (.tbl (ps ++ #[rawInt pos.line, rawInt pos.col, .ref c']))) c' (CodeO c' (X.env.qual ++ "<lambda>"))) := fun b o e n => by
      have n1 : b ≠ c' := ne_of_none e nC
      have n2 : b ≠ P := fun z => n ps (Option.some.inj (e.symm.trans (by rw [z]; exact hP)))
      rw [upd_ne n1, upd_ne n2]
      exact e
    have atP : upd (upd H P (.tbl (ps ++ #[rawInt pos.line, rawInt pos.col, .ref c']))) c' (CodeO c' (X.env.qual ++ "<lambda>")) P = some (.tbl (ps ++ #[rawInt pos.line, rawInt pos.col, .ref c'])) := by rw [upd_ne (ne_of_none hP nC), upd_same]
    have eL : (ps ++ #[rawInt pos.line, rawInt pos.col, .ref c']).toList = ps.toList ++ [rawInt pos.line, rawInt pos.col, .ref c'] := by simp
    have gone : ∀ b, b ≠ c' → s.heap.objs.size ≤ b → upd (upd H P (.tbl (ps ++ #[rawInt pos.line, rawInt pos.col, .ref c']))) c' (CodeO c' (X.env.qual ++ "<lambda>")) b = none := fun b h1 h2 => by
      have h3 : b ≠ P := Nat.ne_of_gt (Nat.lt_of_lt_of_le (Heap.lt_size hP0) h2)
      rw [upd_ne h1, upd_ne h3]
      exact I.hok.fresh h2
    refine go h'.objs.size c' ((X.mg "__name__").getD .none) tv _ _ I1 ⟨hE, fun a qs e => ?_⟩ (fun r hr => ?_) (Heap.get?_push_size _ rfl) kk (fun b l1 l2 => gone b (Nat.ne_of_lt (Nat.lt_of_lt_of_le l2 x2)) l1) (gone _ (Nat.ne_of_gt x3) (Nat.le_trans x2' (Nat.le_of_lt x3))) (Nat.le_trans x2' (Nat.le_of_lt x3)) upd_same
    · by_cases hb : a = P
      · subst hb
        rw [hP] at e
        cases e
        exact ⟨_, atP⟩
      · exact ⟨#[], by rw [Array.append_empty, upd_ne (ne_of_none e nC), upd_ne hb]; exact e⟩
    · by_cases hb : r.1 = P
      · rw [hu r hr hb, hb]
        refine ⟨_, atP, by rw [eL]; exact PySem.TriplesOk_snoc _ _ _ _ ht, fun q' cv hcv => ?_⟩
        rw [eL] at hcv
        rcases among_app _ ht hcv with z | z
        · obtain ⟨c0, e1, e2⟩ := ha q' cv z
          exact ⟨c0, e1, hE _ _ e2 codeO_ne⟩
        · exact ⟨c', z, upd_same⟩
      · obtain ⟨qs, a1, a2, a3⟩ := hT r hr
        refine ⟨qs, by rw [upd_ne (ne_of_none a1 nC), upd_ne hb]; exact a1, a2, fun q' cv hcv => ?_⟩
        obtain ⟨c0, e1, e2⟩ := a3 q' cv hcv
        exact ⟨c0, e1, hE _ _ e2 codeO_ne⟩
  | some cv =>
    obtain ⟨c', e, hco⟩ := ha pos cv hq
    subst e
    refine tail_hit (gm := X.mg) (co := c) (Pt := P) (tb := ps) (closure_ok hfree) I.ok.glob gl hc cd (up _ _ hP0) ht hq bP fun tv h' tk x1 x2 => ?_
    have x2 : h1.objs.size ≤ h'.objs.size := x2
    have kk : ∀ b o, h1.get? b = some o → (h'.push (lob (X.env.qual ++ "<lambda>") pa bo scope (cloFrom X.env.cells scope.names []) ((X.mg "__name__").getD .none) (.ref c') tv dV)).get? b = some o := fun b o e => Heap.get?_push_of_some _ (x1 b o e)
    have I1 : Inv X pins σ H { s with heap := h'.push (lob (X.env.qual ++ "<lambda>") pa bo scope (cloFrom X.env.cells scope.names []) ((X.mg "__name__").getD .none) (.ref c') tv dV), toks := tk } := I.kept fun b o e => kk b o (up b o e)
    exact go h'.objs.size c' ((X.mg "__name__").getD .none) tv H _ I1 (ExtT.refl H) hT (Heap.get?_push_size _ rfl) (fun b o _ e => kk b o e) (fun b l1 _ => I.hok.fresh l1) (I.hok.fresh (Nat.le_trans hsz x2)) (Nat.le_trans hsz x2) hco
theorem no_frame (I : Inv X pins σ H s) : ∀ f, s.heap.objs.size ≤ f → f ∉ frs X.stack := fun f hf z => by
  rcases List.mem_cons.mp (I.stkSub _ z) with e | e
  · have q := I.lt
    subst e
    exact absurd q (Nat.not_lt.mpr hf)
  · exact I.nofs hf e
theorem lam_make0 {T : List (Addr × Str)} {c P : Addr} {pa : Arguments} {bo : Expr} {scope : Scope} {pos : Pos} {E : Value → Shared → Prop} {Q : Value → Shared → Prop} (I : Inv X pins σ H s) (TB : TabB X.base X.mg c P) (hc : X.env.code = .ref c)
    (hm : (P, X.env.qual ++ "<lambda>") ∈ T) (hu : ∀ p ∈ T, p.1 = P → p.2 = X.env.qual ++ "<lambda>") (hT : Tabs T H) (hdef : defaultsOf pa X.env = ([], [])) (hfree : ∀ y ∈ scope.names, y.2 = .free → ∃ c, X.env.cells.lookup y.1 = some c)
    (go : ∀ (f c' : Addr) (pm tv : Value) (H1 : Hp) (s' : Shared), Inv X pins σ H1 s' → ExtT H H1 → Tabs T H1 → s'.heap.get? f = some (PySem.W.kla_obj "<lambda>" (X.env.qual ++ "<lambda>") pa bo scope (cloFrom X.env.cells scope.names []) pm c' tv) →
      H1 f = none → f ∉ frs X.stack → H1 c' = some (CodeO c' (X.env.qual ++ "<lambda>")) → Q (.ref f) s') :
    wpAny (model X.prog X.w) X.A (eval (.Lambda pa bo scope pos) X.env) Q E s := by
  refine PySem.W.kla_eval hdef ?_
  rw [makeFunction_eq]
  simp only [List.zip_nil_right, List.filterMap_nil, List.isEmpty_nil, if_true, pure_bind]
  obtain ⟨hp, gs, dr, tk, ost⟩ := s
  exact lam_core (h1 := hp) (t1 := tk) I (fun _ _ e => e) (Nat.le_refl _) TB hc hm hu hT hfree (I.mod.glob.keeps I.bk) fun f c' pm tv H1 s' I1 eN T1 hf _ _ hfn hsz hco => go f c' pm tv H1 s' I1 eN T1 hf hfn (no_frame I f hsz) hco
/-- the lambda is made -/
theorem lam_make3 {T : List (Addr × Str)} {c P : Addr} {pa : Arguments} {bo : Expr} {scope : Scope} {pos cp : Pos} {i : Int} {j : Nat} {E : Value → Shared → Prop} {Q : Value → Shared → Prop} (I : Inv X pins σ H s) (TB : TabB X.base X.mg c P) (hc : X.env.code = .ref c)
    (hm : (P, X.env.qual ++ "<lambda>") ∈ T) (hu : ∀ p ∈ T, p.1 = P → p.2 = X.env.qual ++ "<lambda>") (hT : Tabs T H) (hdef : defaultsOf pa X.env = ([eval (.Constant (.int i) j cp) X.env], [])) (hfree : ∀ y ∈ scope.names, y.2 = .free → ∃ c, X.env.cells.lookup y.1 = some c)
    (go : ∀ (f c' d : Addr) (pm tv : Value) (t : Tok) (H1 : Hp) (s' : Shared), Inv X pins σ H1 s' → ExtT H H1 → Tabs T H1 → s'.heap.get? f = some (lob (X.env.qual ++ "<lambda>") pa bo scope (cloFrom X.env.cells scope.names []) pm (.ref c') tv (.ref d)) →
      s'.heap.get? d = some (tup1 i t) → H1 f = none → H1 d = none → f ∉ frs X.stack → d ∉ frs X.stack → H1 c' = some (CodeO c' (X.env.qual ++ "<lambda>")) → Q (.ref f) s') :
    wpAny (model X.prog X.w) X.A (eval (.Lambda pa bo scope pos) X.env) Q E s := by
  refine lam_eval hdef fun t => ?_
  have sz : (s.heap.push (tup1 i t)).objs.size = s.heap.objs.size + 1 := Heap.size_push ..
  obtain ⟨ps, hP, _, _⟩ := hT _ hm
  have nP : s.heap.objs.size ≠ P := Nat.ne_of_gt (Heap.lt_size (show s.heap.get? P = some { cls := .none, data := .fields ps } from I.hok P _ hP))
  exact lam_core I (fun b o z => Heap.get?_push_of_some _ z) (by omega) TB hc hm hu hT hfree ((I.mod.glob.keeps I.bk).push _) fun f c' pm tv H1 s' I1 eN T1 hf kk hg hfn hfs hco =>
    go f c' s.heap.objs.size pm tv t H1 s' I1 eN T1 hf (kk _ _ nP (Heap.get?_push_size _ rfl)) hfn (hg _ (Nat.le_refl _) (by omega)) (no_frame I f hfs) (no_frame I _ (Nat.le_refl _)) hco
end
end DX

namespace DX
open PySem PySem.Spec PyProof.Rows L2 LamX
section
variable {X : Cx} {pins : List (Addr × Obj)} {σ : L2.St} {H HZ : Hp} {s s1 : Shared} {p : Str}
/-- the lambda's body begins: its parameter holds u -/
theorem lam_start3 {A : Around} {outer : List Env} {E : XK} {scope : Scope} {f c' : Addr} {h₁ : Heap} {tk : Nat} {u : Value} (I : Inv X pins σ H s) (L : LamP p X.env.scope scope) (hp : p ∉ X.N) (e0 : Env0 X.prog X.w X.K X.mg X.base A outer s1 HZ) (hd : A.handled = none)
    (un : Un (frs X.stack) [] H HZ s.heap s1.heap) (hns : h₁.Ns s1.heap.objs.size fun y => ([(p, u)] : List (Str × Value)).reverse.lookup y) (kp : ∀ b o, s1.heap.get? b = some o → h₁.get? b = some o) :
    Inv (lamCx X A outer s1 HZ E scope f c') [] σ HZ { s1 with heap := h₁, toks := tk } := by
  have caught := L.cells I.ok
  have back : ∀ {y c}, (cloFrom X.env.cells scope.names []).lookup y = some c → X.env.cells.lookup y = some c := fun {y c} e => by
    rcases cloFrom_mem (PySem.mem_of_lookup e) with q | ⟨q1, q2⟩
    · cases q
    · obtain ⟨c1, k1⟩ := caught _ q1 rfl
      have k1 : X.env.cells.lookup y = some c1 := k1
      have k2 : c = c1 := by
        rw [q2, k1] <;> rfl
      rw [k2]
      exact k1
  have there : ∀ {y}, scope.names.lookup y = some .free → ∃ c, (cloFrom X.env.cells scope.names []).lookup y = some c := fun {y} q =>
    mem_lookup (cloFrom_has (cells := X.env.cells) (acc := []) (PySem.mem_of_lookup q))
  have keepC : ∀ {c : Addr} {v : Option Value}, H c = none → s.heap.IsCell c v → h₁.IsCell c v := fun {c v} n ⟨o, q1, q2⟩ => by
    obtain ⟨sl, q⟩ := un.any q1 n (by simp)
    exact ⟨_, kp _ _ q, q2⟩
  have noEx : ∀ b : Addr, b ∉ (lamCx X A outer s1 HZ E scope f c').ex := fun b z => absurd (show b ∈ ([] : List Addr) from z) (by simp)
  refine ⟨⟨e0.mod, L.kind, rfl, rfl, Nat.le_refl _, fun y z c e1 e2 => I.ok.inj y z c (back e1) (back e2), fun y hy => ?_, fun y c z _ => ?_, fun _ => hd, Around.frames_deeper e0.frames, .inr ⟨rfl, rfl⟩, fun b z => absurd z (noEx b), e0.bs, e0.bsz, fun b _ _ => noEx b, fun b z => absurd z (noEx b), e0.funs, e0.frf⟩, rfl, e0.bare, Un.kept kp, ⟨_, hns, fun i y v e1 e2 e3 => ?_⟩, fun y c e => ?_, e0.hok.fresh (Nat.le_refl _), fun y c e => ?_, fun q hq => absurd (show q ∈ ([] : List (Addr × Obj)) ++ [] from hq) (by simp), e0.hok.kept kp, I.len⟩
  · rcases (show scope.names.lookup y = some .cell ∨ scope.names.lookup y = some .free from hy) with hy | hy
    · exact absurd rfl (L.own _ (PySem.mem_of_lookup hy)).2
    · exact there hy
  · exact absurd (show false = true from z) Bool.false_ne_true
  · rcases (show Vis scope y from e3) with k | k | k
    · have ey := (L.own _ (PySem.mem_of_lookup k)).1 rfl
      have ey : y = p := ey
      subst ey
      exact absurd (List.mem_of_getElem? e1) hp
    · exact absurd rfl (L.own _ (PySem.mem_of_lookup k)).2
    · obtain ⟨m, hn, hl⟩ := I.loc
      have vis : Vis X.env.scope y := (L.free _ (PySem.mem_of_lookup k) rfl).elim (fun k => .inr (.inl k)) (fun k => .inr (.inr k))
      obtain ⟨w', r, q⟩ := hl i y v e1 e2 vis
      obtain ⟨c2, h2⟩ := there k
      refine ⟨w', r, .inr ⟨.inr k, c2, h2, ?_⟩⟩
      rcases q with ⟨k', _⟩ | ⟨_, c3, e', z⟩
      · have k' : X.env.scope.names.lookup y = some .local := k'
        rcases L.free _ (PySem.mem_of_lookup k) rfl with k2 | k2 <;> rw [show X.env.scope.names.lookup y = _ from k2] at k' <;> cases k'
      · rw [back h2] at e'
        cases e'
        exact keepC (I.freeC y _ (back h2)) z
  · obtain ⟨w', z⟩ := I.cell y c (back e)
    exact ⟨w', keepC (I.freeC y c (back e)) z⟩
  · obtain ⟨v, o, ho, hd⟩ := I.cell y c (back e)
    exact un.free c o ho (I.freeC y c (back e)) (by simp)
/-- called without arguments, in the def that got it -/
theorem pe_act3 {CXg : CXT} {Eg : XK} {Ng : List Str} {qg : Str} {sg : Scope} {g f c' d : Addr} {cdg pm tv : Value} {pa : Arguments} {bo : Expr} {scope : Scope} {k i : Nat} {a : Str} {pn : List (Addr × Obj)} {xe : Value → Shared → Prop} {W : WX} {E : L2.St → XK} {tb : XK → TE} {p1 p2 : Pos} {iv : Int} {t0 : Tok}
    (I : Inv X pins σ H s) (L : LamP p X.env.scope scope) (hp : p ∉ X.N) (hf : s.heap.get? f = some (lob (X.env.qual ++ "<lambda>") pa bo scope (cloFrom X.env.cells scope.names []) pm (.ref c') tv (.ref d))) (ht : s.heap.get? d = some (tup1 iv t0)) (hfn : H f = none) (hdn : H d = none) (hfr : f ∉ frs X.stack) (hdr : d ∉ frs X.stack)
    (hbind : ∀ (M : Model) (A : Around) (S : Shared) (E : Value → Shared → Prop) (Q : List (Str × Value) → Shared → Prop), S.heap.get? d = some (tup1 iv t0) → Q [(p, .int iv t0)] S → wpAny M A (bindArgs (lfn (X.env.qual ++ "<lambda>") pa bo scope (cloFrom X.env.cells scope.names []) pm (.ref c') tv (.ref d)) ⟨[], []⟩) Q E S)
    (tk : Takes ((cxOf CXg X.prog X.w X.K X.mg X.base Ng qg sg g cdg X.A X.stack s H Eg).tr pn xe) W) (hW : ∀ σ' cls d H', E σ' cls d H' → W cls d σ' H') (hr : Room (k + 1) (X.A.deeper (envOfC qg sg s.heap.objs.size g cdg)))
    (body : ∀ (A : Around) (outer : List Env) (s : Shared) (H : Hp) (E : XK), Room k (A.deeper (lamEnv X scope s.heap.objs.size f c')) → A.guards = X.A.guards → PE (lamCx X A outer s H E scope f c') bo (tb E))
    (hN : Ng[i]? = some a) (hv : Vis sg a) (hd : (a == ("__debug__" : Str)) = false := by decide) (hcd : (a == ("__classdict__" : Str)) = false := by decide) :
    PE ((cxOf CXg X.prog X.w X.K X.mg X.base Ng qg sg g cdg X.A X.stack s H Eg).tr pn xe) (.Call (.Name a p1) [] [] p2)
      (fun σZ HZ Q => σZ[i]? = some (some (.ref f)) ∧ HZ c' = some (CodeO c' (X.env.qual ++ "<lambda>")) ∧ tb (E σZ) σ HZ Q) := by
  refine ⟨fun pinsZ sZ σZ HZ Q IZ ⟨hs, hc, hb⟩ => ?_⟩
  refine wpAny_Call_Name_kw (thn ((pe_var (pos := p1) (i := i) hN hv hd hcd).run pinsZ sZ σZ HZ (fun v H1 => v = .ref f ∧ H1 = HZ) IZ ⟨.ref f, hs, rfl, rfl⟩) fun u s1 ⟨v, H1, I1, r1, ev, eH⟩ => ?_)
  subst ev
  rw [eH] at I1
  obtain rfl : u = Value.ref f := r1
  have stay : ∀ b o, s.heap.get? b = some o → H b = none → b ∉ frs X.stack → s1.heap.get? b = some o := fun b o z n m => I1.base.keep b o z n m (fun z => nomatch (show b ∈ ([] : List Addr) from z))
  have f1 := stay f _ hf hfn hfr
  have d1 := stay d _ ht hdn hdr
  refine PySem.W.callWith_F0 ⟨_, _, _, _, f1⟩ ?_
  have un : Un (frs X.stack) [] H HZ s.heap s1.heap := I1.base
  obtain ⟨⟨oc, vs, t, hoc, hdc, hvc⟩, _, _⟩ := I1.hok c' _ hc
  have rc : codeAny (model X.prog X.w) (X.A.deeper (envOfC qg sg s.heap.objs.size g cdg)) (.call (.ref f) ⟨[], []⟩) (CR (L2.CX X.prog X.w) (envOfC qg sg s.heap.objs.size g cdg :: X.stack) X.prog X.w HZ s1 Q (E σZ)) s1 := by
    refine PySem.W.kla_callFunE hr.depth f1 rfl L.co L.gen rfl ⟨c', oc, vs, t, rfl, hoc, hdc, hvc⟩ ?_
    refine hbind _ _ _ _ _ d1 (wpAny_newFunctionEnv (fun y hy => (L.own y hy).2) (fun y hy => ?_) (fun h₁ hns hsb => ⟨I1.nolimit.fresh _ hsb, ?_⟩) L.kind)
    · simp only [List.mem_singleton] at hy
      subst hy
      exact L.has
    show codeAny _ _ (.expr bo (lamEnv X scope s1.heap.objs.size f c')) _ _
    have kp : ∀ b o, s1.heap.get? b = some o → h₁.get? b = some o := fun b o e => hsb.extBut b o (Nat.ne_of_lt (Heap.lt_size e)) (Heap.get?_push_of_some _ e)
    have J : Inv (lamCx X (X.A.deeper (envOfC qg sg s.heap.objs.size g cdg)) (envOfC qg sg s.heap.objs.size g cdg :: X.stack) s1 HZ (E σZ) scope f c') [] σ HZ { s1 with heap := h₁, toks := s1.toks + ([(p, Value.int iv t0)] : List (Str × Value)).length } :=
      lam_start3 I L hp I1.env0 hr.hd un hns kp
    refine PySem.W.kla_codeExpr (wpAny_mono ((body _ _ s1 HZ (E σZ) (hr.deeper _) rfl).run [] _ _ HZ Q J hb) (fun v s' hq => ?_) fun e s' hq => hq)
    obtain ⟨w', H', J', rv, q⟩ := hq
    exact ⟨w', H', J'.os, J'.bare, J'.base, J'.hok, rv, q⟩
  have pass : PassesAt (L2.CX X.prog X.w) ((cxOf CXg X.prog X.w X.K X.mg X.base Ng qg sg g cdg X.A X.stack s H Eg).tr pn xe) σZ (E σZ) := fun _ _ _ e s' J c => tk e s' (XE.of_call J (fun cls d H' h => hW σZ cls d H' h) c)
  refine wpAny_call (codeAny_mono rc fun r s' hq => ?_)
  cases r with
  | error e => exact pass pinsZ HZ s1 e s' I1 hq
  | ok fl =>
    cases fl with
    | ret u => exact I1.after hq
    | next => exact False.elim hq
    | brk => exact False.elim hq
    | cont => exact False.elim hq
/-- called without arguments, in the def that got it -/
theorem pe_act0 {CXg : CXT} {Eg : XK} {Ng : List Str} {qg : Str} {sg : Scope} {g f c' : Addr} {cdg pm tv : Value} {pa : Arguments} {bo : Expr} {scope : Scope} {k i : Nat} {a : Str} {pn : List (Addr × Obj)} {xe : Value → Shared → Prop} {W : WX} {E : L2.St → XK} {tb : XK → TE} {p1 p2 : Pos} 
    (I : Inv X pins σ H s) (L : LamS X.env.scope scope) (hf : s.heap.get? f = some (PySem.W.kla_obj "<lambda>" (X.env.qual ++ "<lambda>") pa bo scope (cloFrom X.env.cells scope.names []) pm c' tv)) (hfn : H f = none) (hfr : f ∉ frs X.stack)
    (hbind : bindArgs (PySem.W.kla_fn "<lambda>" (X.env.qual ++ "<lambda>") pa bo scope (cloFrom X.env.cells scope.names []) pm (.ref c') tv) ⟨[], []⟩ = pure [])
    (tk : Takes ((cxOf CXg X.prog X.w X.K X.mg X.base Ng qg sg g cdg X.A X.stack s H Eg).tr pn xe) W) (hW : ∀ σ' cls d H', E σ' cls d H' → W cls d σ' H') (hr : Room (k + 1) (X.A.deeper (envOfC qg sg s.heap.objs.size g cdg)))
    (body : ∀ (A : Around) (outer : List Env) (s : Shared) (H : Hp) (E : XK), Room k (A.deeper (lamEnv X scope s.heap.objs.size f c')) → A.guards = X.A.guards → PE (lamCx X A outer s H E scope f c') bo (tb E))
    (hN : Ng[i]? = some a) (hv : Vis sg a) (hd : (a == ("__debug__" : Str)) = false := by decide) (hcd : (a == ("__classdict__" : Str)) = false := by decide) :
    PE ((cxOf CXg X.prog X.w X.K X.mg X.base Ng qg sg g cdg X.A X.stack s H Eg).tr pn xe) (.Call (.Name a p1) [] [] p2)
      (fun σZ HZ Q => σZ[i]? = some (some (.ref f)) ∧ HZ c' = some (CodeO c' (X.env.qual ++ "<lambda>")) ∧ tb (E σZ) σ HZ Q) := by
  refine ⟨fun pinsZ sZ σZ HZ Q IZ ⟨hs, hc, hb⟩ => ?_⟩
  refine wpAny_Call_Name_kw (thn ((pe_var (pos := p1) (i := i) hN hv hd hcd).run pinsZ sZ σZ HZ (fun v H1 => v = .ref f ∧ H1 = HZ) IZ ⟨.ref f, hs, rfl, rfl⟩) fun u s1 ⟨v, H1, I1, r1, ev, eH⟩ => ?_)
  subst ev
  rw [eH] at I1
  obtain rfl : u = Value.ref f := r1
  have stay : ∀ b o, s.heap.get? b = some o → H b = none → b ∉ frs X.stack → s1.heap.get? b = some o := fun b o z n m => I1.base.keep b o z n m (fun z => nomatch (show b ∈ ([] : List Addr) from z))
  have f1 := stay f _ hf hfn hfr
  refine PySem.W.callWith_F0 ⟨_, _, _, _, f1⟩ ?_
  have un : Un (frs X.stack) [] H HZ s.heap s1.heap := I1.base
  obtain ⟨⟨oc, vs, t, hoc, hdc, hvc⟩, _, _⟩ := I1.hok c' _ hc
  have rc : codeAny (model X.prog X.w) (X.A.deeper (envOfC qg sg s.heap.objs.size g cdg)) (.call (.ref f) ⟨[], []⟩) (CR (L2.CX X.prog X.w) (envOfC qg sg s.heap.objs.size g cdg :: X.stack) X.prog X.w HZ s1 Q (E σZ)) s1 := by
    refine PySem.W.kla_callFunE hr.depth f1 rfl L.co L.gen rfl ⟨c', oc, vs, t, rfl, hoc, hdc, hvc⟩ ?_
    rw [hbind]
    refine wpAny_pure (wpAny_newFunctionEnv (fun y hy => (L.own y hy).2) (fun y hy => absurd hy (by simp)) (fun h₁ hns hsb => ⟨I1.nolimit.fresh _ hsb, ?_⟩) L.kind)
    show codeAny _ _ (.expr bo (lamEnv X scope s1.heap.objs.size f c')) _ _
    have kp : ∀ b o, s1.heap.get? b = some o → h₁.get? b = some o := fun b o e => hsb.extBut b o (Nat.ne_of_lt (Heap.lt_size e)) (Heap.get?_push_of_some _ e)
    have J : Inv (lamCx X (X.A.deeper (envOfC qg sg s.heap.objs.size g cdg)) (envOfC qg sg s.heap.objs.size g cdg :: X.stack) s1 HZ (E σZ) scope f c') [] σ HZ { s1 with heap := h₁, toks := s1.toks + ([] : List (Str × Value)).length } :=
      lam_start2 I L I1.env0 hr.hd un hns kp
    refine PySem.W.kla_codeExpr (wpAny_mono ((body _ _ s1 HZ (E σZ) (hr.deeper _) rfl).run [] _ _ HZ Q J hb) (fun v s' hq => ?_) fun e s' hq => hq)
    obtain ⟨w', H', J', rv, q⟩ := hq
    exact ⟨w', H', J'.os, J'.bare, J'.base, J'.hok, rv, q⟩
  have pass : PassesAt (L2.CX X.prog X.w) ((cxOf CXg X.prog X.w X.K X.mg X.base Ng qg sg g cdg X.A X.stack s H Eg).tr pn xe) σZ (E σZ) := fun _ _ _ e s' J c => tk e s' (XE.of_call J (fun cls d H' h => hW σZ cls d H' h) c)
  refine wpAny_call (codeAny_mono rc fun r s' hq => ?_)
  cases r with
  | error e => exact pass pinsZ HZ s1 e s' I1 hq
  | ok fl =>
    cases fl with
    | ret u => exact I1.after hq
    | next => exact False.elim hq
    | brk => exact False.elim hq
    | cont => exact False.elim hq
/-- the def that calls what it got; TT: what it makes of the lambda's reading -/
def Gives2 (X : Cx) (Ng : List Str) (x : Str) (sg : Scope) (g : Addr) (cdg : Value) (bg : List Stmt) (a : Str) (q : Str) (TT : (XK → Hp → VK → Prop) → Hp → VK → Prop) : Prop :=
  ∀ (f c' : Addr) (s : Shared) (H : Hp) (Q : VK) (tl : XK → Hp → VK → Prop),
    (∀ (W : WX) (pn : List (Addr × Obj)) (xe : Value → Shared → Prop) (E : L2.St → XK) (p1 p2 : Pos), Takes ((cxOf C8.CX0 X.prog X.w X.K X.mg X.base Ng x sg g cdg X.A X.stack s H C8.E0).tr pn xe) W → (∀ σ' cls d H', E σ' cls d H' → W cls d σ' H') →
      PE ((cxOf C8.CX0 X.prog X.w X.K X.mg X.base Ng x sg g cdg X.A X.stack s H C8.E0).tr pn xe) (.Call (.Name a p1) [] [] p2) (fun σZ HZ Q => σZ[0]? = some (some (.ref f)) ∧ HZ c' = some (CodeO c' q) ∧ tl (E σZ) HZ Q)) →
    H c' = some (CodeO c' q) → TT tl H Q →
    ∃ t, PSs (cxOf C8.CX0 X.prog X.w X.K X.mg X.base Ng x sg g cdg X.A X.stack s H C8.E0).nox bg t ∧ t { nx := fun _ H' => Q .non H', rt := Q } (L2.start Ng [.ref f]) H
def tLam2 (T : List (Addr × Str)) (TT : (XK → Hp → VK → Prop) → Hp → VK → Prop) (t : XK → TE) : TE := fun σ H Q => Tabs T H ∧ ∀ H1, ExtT H H1 → Tabs T H1 → TT (fun E H' Q' => t E σ H' Q') H1 Q
/-- x(lambda: body) -/
theorem pe_lamcall0 {T : List (Addr × Str)} {TT : (XK → Hp → VK → Prop) → Hp → VK → Prop} {x a : Str} {g c P : Addr} {k : Nat} {pg : Arguments} {bg : List Stmt} {sg : Scope} {dV kV doc pm cdv ct oc : Value} {an od : Option Addr} {osl : Array (Option Value)} {Ng : List Str}
    {pa : Arguments} {bo : Expr} {scope : Scope} {t : XK → TE} {q1 lpos pos : Pos} (hg : Gl X x) (hm : X.mg x = some (.ref g)) (hk : PySem.W.keepIn X.K (.ref g) = true)
    (lk : X.K.lookup g = some ⟨oc, od, .func (PySem.W.fnOf x x pg bg sg dV kV doc pm an cdv ct), osl⟩) (hcg : PySem.W.codeIn X.K cdv x = true) (hb : L2.Binds X.K (PySem.W.fnOf x x pg bg sg dV kV doc pm an cdv ct) [a] []) (Sg : FnScope Ng [a] sg) (hNg : Ng[0]? = some a) (hva : Vis sg a)
    (hG : Gives2 X Ng x sg g cdv bg a (X.env.qual ++ "<lambda>") TT)
    (TB : TabB X.base X.mg c P) (hcode : X.env.code = .ref c) (hmT : (P, X.env.qual ++ "<lambda>") ∈ T) (hu : ∀ p ∈ T, p.1 = P → p.2 = X.env.qual ++ "<lambda>") (hr : Room (k + 2) X.A) (L : LamS X.env.scope scope) (hdef : defaultsOf pa X.env = ([], []))
    (hbind : ∀ (q : Str) (cl : List (Str × Addr)) (pm cv tv : Value), bindArgs (PySem.W.kla_fn "<lambda>" q pa bo scope cl pm cv tv) ⟨[], []⟩ = pure [])
    (body : ∀ (A : Around) (outer : List Env) (s : Shared) (H : Hp) (E : XK) (f c' : Addr), Room k (A.deeper (lamEnv X scope s.heap.objs.size f c')) → A.guards = X.A.guards → PE (lamCx X A outer s H E scope f c') bo (t E))
    (hdb : (x == ("__debug__" : Str)) = false := by decide) (hd : (a == ("__debug__" : Str)) = false := by decide) (hcd : (a == ("__classdict__" : Str)) = false := by decide) :
    PE X (.Call (.Name x q1) [.Lambda pa bo scope lpos] [] pos) (tLam2 T TT t) := by
  refine ⟨fun pins s σ H Q I ⟨hT, h⟩ => ?_⟩
  refine wpAny_Call_Name_kw (ld_glob I hg hm ?_ hdb)
  refine PySem.W.callWith_K (h₀ := X.base) I.ok.mod.kin hk ?_ (by rfl) (by rfl)
  show wpAny _ _ (spliced ((false, eval (.Lambda pa bo scope lpos) X.env) :: backTo pos (starEach [] X.env))) _ _ s
  refine Calls.spliced_cons (lam_make0 I TB hcode hmT hu hT hdef (L.has I.ok) fun f c' pm' tv H1 s' I1 eN T1 hf hfn hfr hco => ?_)
  refine Calls.spliced_nil ⟨I1.kIn, ?_⟩
  have rc : codeAny (model X.prog X.w) X.A (.call (.ref g) ⟨[.ref f], []⟩) (CR C8.CX0 X.stack X.prog X.w H1 s' Q C8.E0) s' := by
    refine run_ofS (N := Ng) (ps := [a]) (us := [.ref f]) (vs := [.ref f]) lk hcg Sg hr I1.env0 (hb s' [.ref f] I1.kIn rfl) (.cons rfl .nil) rfl fun hr' => ?_
    obtain ⟨t', ht', hq'⟩ := hG f c' s' H1 Q (fun E H' Q' => t E σ H' Q') (fun W pn xe E p1 p2 tk hW => pe_act0 (i := 0) I1 L hf hfn hfr (hbind _ _ _ _ _) tk hW hr' (fun A outer s H E hr2 hg2 => body A outer s H E f c' hr2 hg2) hNg hva hd hcd) hco (h H1 eN T1)
    exact ⟨t', ht'.nox, hq'⟩
  refine wpAny_call (codeAny_mono rc fun r s2 hq => ?_)
  cases r with
  | error e => exact (show False from hq).elim
  | ok fl =>
    cases fl with
    | ret u => exact I1.after hq
    | next => exact False.elim hq
    | brk => exact False.elim hq
    | cont => exact False.elim hq
/-- x(lambda p=i: body) -/
theorem pe_lamcall3 {T : List (Addr × Str)} {TT : (XK → Hp → VK → Prop) → Hp → VK → Prop} {x a : Str} {g c P : Addr} {k : Nat} {pg : Arguments} {bg : List Stmt} {sg : Scope} {dV kV doc pm cdv ct oc : Value} {an od : Option Addr} {osl : Array (Option Value)} {Ng : List Str}
    {pa : Arguments} {bo : Expr} {scope : Scope} {t : XK → TE} {q1 lpos pos cp : Pos} {iv : Int} {j : Nat} (hg : Gl X x) (hm : X.mg x = some (.ref g)) (hk : PySem.W.keepIn X.K (.ref g) = true)
    (lk : X.K.lookup g = some ⟨oc, od, .func (PySem.W.fnOf x x pg bg sg dV kV doc pm an cdv ct), osl⟩) (hcg : PySem.W.codeIn X.K cdv x = true) (hb : L2.Binds X.K (PySem.W.fnOf x x pg bg sg dV kV doc pm an cdv ct) [a] []) (Sg : FnScope Ng [a] sg) (hNg : Ng[0]? = some a) (hva : Vis sg a)
    (hG : Gives2 X Ng x sg g cdv bg a (X.env.qual ++ "<lambda>") TT)
    (TB : TabB X.base X.mg c P) (hcode : X.env.code = .ref c) (hmT : (P, X.env.qual ++ "<lambda>") ∈ T) (hu : ∀ p ∈ T, p.1 = P → p.2 = X.env.qual ++ "<lambda>") (hr : Room (k + 2) X.A) (L : LamP p X.env.scope scope) (hp : p ∉ X.N) (hdef : defaultsOf pa X.env = ([eval (.Constant (.int iv) j cp) X.env], []))
    (hbind : ∀ (M : Model) (A : Around) (S : Shared) (E : Value → Shared → Prop) (Q : List (Str × Value) → Shared → Prop) (q : Str) (cl : List (Str × Addr)) (pm cv tv : Value) (d : Addr) (t0 : Tok), S.heap.get? d = some (tup1 iv t0) → Q [(p, .int iv t0)] S → wpAny M A (bindArgs (lfn q pa bo scope cl pm cv tv (.ref d)) ⟨[], []⟩) Q E S)
    (body : ∀ (A : Around) (outer : List Env) (s : Shared) (H : Hp) (E : XK) (f c' : Addr), Room k (A.deeper (lamEnv X scope s.heap.objs.size f c')) → A.guards = X.A.guards → PE (lamCx X A outer s H E scope f c') bo (t E))
    (hdb : (x == ("__debug__" : Str)) = false := by decide) (hd : (a == ("__debug__" : Str)) = false := by decide) (hcd : (a == ("__classdict__" : Str)) = false := by decide) :
    PE X (.Call (.Name x q1) [.Lambda pa bo scope lpos] [] pos) (tLam2 T TT t) := by
  refine ⟨fun pins s σ H Q I ⟨hT, h⟩ => ?_⟩
  refine wpAny_Call_Name_kw (ld_glob I hg hm ?_ hdb)
  refine PySem.W.callWith_K (h₀ := X.base) I.ok.mod.kin hk ?_ (by rfl) (by rfl)
  show wpAny _ _ (spliced ((false, eval (.Lambda pa bo scope lpos) X.env) :: backTo pos (starEach [] X.env))) _ _ s
  refine Calls.spliced_cons (lam_make3 I TB hcode hmT hu hT hdef (L.cells I.ok) fun f c' d pm' tv t0 H1 s' I1 eN T1 hf ht hfn hdn hfr hdr hco => ?_)
  refine Calls.spliced_nil ⟨I1.kIn, ?_⟩
  have rc : codeAny (model X.prog X.w) X.A (.call (.ref g) ⟨[.ref f], []⟩) (CR C8.CX0 X.stack X.prog X.w H1 s' Q C8.E0) s' := by
    refine run_ofS (N := Ng) (ps := [a]) (us := [.ref f]) (vs := [.ref f]) lk hcg Sg hr I1.env0 (hb s' [.ref f] I1.kIn rfl) (.cons rfl .nil) rfl fun hr' => ?_
    obtain ⟨t', ht', hq'⟩ := hG f c' s' H1 Q (fun E H' Q' => t E σ H' Q') (fun W pn xe E p1 p2 tk hW => pe_act3 (i := 0) I1 L hp hf ht hfn hdn hfr hdr (fun M A S E Q => hbind M A S E Q _ _ _ _ _ _ _) tk hW hr' (fun A outer s H E hr2 hg2 => body A outer s H E f c' hr2 hg2) hNg hva hd hcd) hco (h H1 eN T1)
    exact ⟨t', ht'.nox, hq'⟩
  refine wpAny_call (codeAny_mono rc fun r s2 hq => ?_)
  cases r with
  | error e => exact (show False from hq).elim
  | ok fl =>
    cases fl with
    | ret u => exact I1.after hq
    | next => exact False.elim hq
    | brk => exact False.elim hq
    | cont => exact False.elim hq
end
end DX

/-! try with several clauses that keep the exception's name; what is caught is tracked. -/
namespace DX
open PySem PySem.Spec PyProof.Rows L2
/-- the context of a clause -/
abbrev hot (X : Cx) (a : Addr) (pn : List (Addr × Obj)) : Cx := { X with A := X.A.mark (some (.ref a)), calm := false, pn := pn, xe := fun _ _ => False }
section
variable {X : Cx} {pins : List (Addr × Obj)} {σ : L2.St} {H : Hp} {s : Shared} {a : Addr}
/-- an object that was made behind the entry is tracked from now on -/
theorem Inv.track {o : HO} {oe : Obj} {vs : Array Value} (I : Inv X pins σ H s) (h0 : X.s_0.heap.get? a = none) (na : H a = none) (ha : s.heap.get? a = some oe) (hd : oe.data = .fields vs) (nL : a ≠ X.env.locals) (np : ∀ p ∈ X.pn ++ pins, p.1 ≠ a)
    (new : ObjOk X.prog X.w (upd H a o) s.heap a o) : Inv X pins σ (upd H a o) s := by
  have ne0 : ∀ b u, X.s_0.heap.get? b = some u → b ≠ a := fun b u e z => by
    rw [z, h0] at e
    cases e
  have neH : ∀ b u, H b = some u → b ≠ a := fun b u e => ne_of_none e na
  have neC : ∀ x c, X.env.cells.lookup x = some c → c ≠ a := fun x c e z => by
    obtain ⟨v, ob, q1, q2⟩ := I.cell x c e
    rw [z, ha] at q1
    cases q1
    rw [hd] at q2
    cases q2
  refine ⟨I.ok, I.os, I.bare, ⟨I.base.keep, I.base.slot, fun b u e n hx => ?_, I.base.there, fun b xs e => ?_, fun b u w e => ?_, fun b ps e => ?_⟩, I.loc, I.cell, ?_, fun x c e => ?_, fun p hp => ?_, fun b u e => ?_, I.len⟩
  · rw [upd_ne (ne0 b u e)]
    exact I.base.free b u e n hx
  · rw [upd_ne (neH b _ (I.base.tups b xs e))]
    exact I.base.tups b xs e
  · rw [upd_ne (neH b _ (I.base.frzs b u w e))]
    exact I.base.frzs b u w e
  · obtain ⟨m, q⟩ := I.base.tbls b ps e
    exact ⟨m, by rw [upd_ne (neH b _ q)]; exact q⟩
  · rw [upd_ne (Ne.symm nL)]
    exact I.free
  · rw [upd_ne (neC x c e)]
    exact I.freeC x c e
  · obtain ⟨q1, q2, q3⟩ := I.pin p hp
    exact ⟨q1, by rw [upd_ne (np p hp)]; exact q2, q3⟩
  · by_cases hb : b = a
    · rw [hb, upd_same] at e
      cases e
      rw [hb]
      exact new
    · rw [upd_ne hb] at e
      exact (I.hok b u e).stay (fun _ _ _ q => q) (fun c q => by rw [upd_ne (neH c _ q)]; exact q) fun c xs q => by rw [upd_ne (neH c _ q)]; exact q
theorem Inv.hot (I : Inv X pins σ H s) : Inv (hot X a (X.pn ++ pins)) [] σ H s :=
  ⟨I.ok.suite a _, I.os, I.bare, I.base, I.loc, I.cell, I.free, I.freeC, fun p hp => by rw [List.append_nil] at hp; exact I.pin p hp, I.hok, I.len⟩
theorem Inv.cold {pn' : List (Addr × Obj)} (I : Inv (DX.hot X a (X.pn ++ pins)) pn' σ H s) (ok : X.Ok) : Inv X pins σ H s :=
  ⟨ok, I.os, I.bare, I.base, I.loc, I.cell, I.free, I.freeC, fun p hp => I.pin p (List.mem_append_left _ hp), I.hok, I.len⟩
end
/-- a clause: its class, the name's slot, what its suite does with the exception at a, of the class at C, with its dict at d -/
structure Clause where
  c : Value
  i : Nat
  ts : Addr → Addr → Addr → TS
def wCl (K : PySem.W.Frag) (Wout : WX) (D : Ends) : List Clause → WX
  | [] => Wout
  | q :: r => fun cls d σ H => ∃ b, PySem.W.exmOne K cls q.c = some b ∧
      (b = true → ∃ C dd, cls = .ref C ∧ d = some dd ∧ ∀ a, H a = none → q.ts a C dd { nx := fun σ' H' => D.nx (σ'.set q.i none) H', rt := D.rt, bk := fun σ' H' => D.bk (σ'.set q.i none) H', ct := fun σ' H' => D.ct (σ'.set q.i none) H' } (σ.set q.i (some (.ref a))) (upd H a (exk a C dd))) ∧
      (b = false → wCl K Wout D r cls d σ H)
inductive Clauses (X : Cx) : List ExceptHandler → List Clause → Prop
  | nil : Clauses X [] []
  | cons {x n : Str} {q : Clause} {b₀ : Stmt} {suite : List Stmt} {np pos' : Pos} {hds : List ExceptHandler} {l : List Clause} (hc : Names X x q.c) (hi : X.N[q.i]? = some n) (hl : X.env.kindOf n = some .local)
      (hs : ∀ a C d pn, PSs (hot X a pn) (b₀ :: suite) (q.ts a C d)) (r : Clauses X hds l) : Clauses X (.ExceptHandler (some (.Name x np)) (some n) (b₀ :: suite) pos' :: hds) (q :: l)
section
variable {X : Cx} {body : List Stmt} {h₀ : ExceptHandler} {hds : List ExceptHandler} {l : List Clause} {pos : Pos} {tb : WX → TS} {Wout : WX}
theorem ps_tryK (hst : X.stack = X.env :: X.outer) (hf : X.env.frame = some X.env.locals) (hN : X.N.Nodup) (hx0 : X.ex = []) (tk : Takes X Wout)
    (hb : ∀ (W : WX) (pn : List (Addr × Obj)) (xe : Value → Shared → Prop), Takes (X.tr pn xe) W → PassesOwn (model X.prog X.w) X.A X.env xe → PSs (X.tr pn xe) body (tb W))
    (hh : Clauses X (h₀ :: hds) l) : PS X (.Try body (h₀ :: hds) [] [] pos) (fun D σ H => tb (wCl X.K Wout D l) D σ H) := by
  refine ⟨fun pins s σ H D I h => ?_⟩
  have ok := I.ok
  have hfr : X.A.frames = some (X.env :: X.outer) := by rw [ok.frames, hst]
  refine wpAny_Try_except ?_
  refine wpAny_mono ((hb (wCl X.K Wout D l) (X.pn ++ pins) (fun e s₁ => wpAny (model X.prog X.w) X.A (noteFrame e X.env) (fun _ s₂ => wpAny (model X.prog X.w) X.A (setFlight e none) (fun _ s₃ =>
    wpAny (model X.prog X.w) X.A (handleBy e X.env (h₀ :: hds)) (SP X pins D) X.xe s₃) X.xe s₂) X.xe s₁) (fun u s' xx => ?_) PassesOwn.looking).run [] s σ H D (I.toTry _) h) (fun f s1 hsp => ?_) (fun e s1 he => he)
  · obtain ⟨a, B, sI, pins', σ', H', cls, d, rfl, J', nb, up, sky, na, os, ag, w⟩ := xx
    have J : Inv X pins σ' H' sI := J'.ofTry ok
    have sky' : Sky B (X.env :: X.outer) a (Zc cls d) X.env.locals s'.heap := by rw [← hst]; exact sky
    show wpAny (model X.prog X.w) X.A (noteFrame (.ref a) X.env) _ _ _
    refine Sky.land Zc.steady hfr hf sky' fun h3 fl3 up3 => ?_
    have J3 : Inv X pins σ' H' { s' with heap := h3 } := J.landed nb fl3.1 (up.trans up3) os ag
    obtain ⟨oe3, vs3, he3, hz3, hd3⟩ := fl3.there
    have notFr : ∀ {h : Heap} {o : Obj} {vs : Array Value}, h.FunFrames B (X.env :: X.outer) → h.get? a = some o → o.data = .fields vs → a ∉ frs (X.env :: X.outer) := fun {h o vs} ff e dd hm => by
      obtain ⟨_, o', e', q⟩ := ff.mem hm
      rw [e] at e'
      cases e'
      exact q _ dd
    have nfr := notFr fl3.2.2.1 he3 hd3
    have nL : a ≠ X.env.locals := fun z => nfr (List.mem_filterMap.mpr ⟨X.env, List.mem_cons_self, by rw [hf, z]⟩)
    have nB : B.get? a = none := fl3.2.1
    have nI : sI.heap.get? a = none := by
      cases q : sI.heap.get? a with
      | none => rfl
      | some o =>
        have z := nb a o q (by rw [hst]; exact nfr)
        rw [nB] at z
        cases z
    have n0 : X.s_0.heap.get? a = none := by
      cases q : X.s_0.heap.get? a with
      | none => rfl
      | some o =>
        obtain ⟨o', z⟩ := J.base.there a o q (by rw [hx0]; exact fun z => nomatch z)
        rw [nI] at z
        cases z
    have np : ∀ p ∈ X.pn ++ pins, p.1 ≠ a := fun p hp z => by
      have q := (J.pin p hp).1
      rw [z, nI] at q
      cases q
    have go : ∀ {hds' : List ExceptHandler} {l' : List Clause}, Clauses X hds' l' → wCl X.K Wout D l' cls d σ' H' → wpAny (model X.prog X.w) X.A (handleBy (.ref a) X.env hds') (SP X pins D) X.xe { s' with heap := h3 } := by
      intro hds' l' hk
      induction hk with
      | nil =>
        intro w
        refine wpAny_handleBy_nil ?_
        obtain ⟨k1, k2, k3, oe, vs, T, oT, ts', he, hz, hd, h1, hr⟩ := id fl3
        unfold PySem.passOn
        refine wpAny_bind (wpAny_field he hd h1 ?_)
        rw [if_neg (show ¬ ((Value.ref T == Value.none) = true) from by simp)]
        have fin : wpAny (model X.prog X.w) X.A (setFlight (.ref a) X.env.frame) (fun _ s4 => wpAny (model X.prog X.w) X.A (throw (.ref a) : Sem Flow) (SP X pins D) X.xe s4) X.xe { s' with heap := h3 } := by
          rw [hf]
          refine HandSPX.setFlight_upZ fl3 fun h4 hh4 up4 => wpAny_throw (tk _ _ ?_)
          exact ⟨a, B, sI, pins, σ', H', cls, d, rfl, J, nb, (up.trans up3).trans up4, .inr (.inr (by rw [hst]; exact hh4)), na, os, ag, w⟩
        first
          | exact wpAny_bind (wpAny_pure (wpAny_bind fin))
          | exact wpAny_bind fin
      | @cons x n q b₀ suite np' pos' hds2 l2 hc hi hln hsu _ ih =>
        intro w
        obtain ⟨b, hb1, yes, no⟩ := w
        refine wpAny_handleBy_cons (codeAny_handlers_test ?_) (by intro q; cases q)
        have LT : PySem.W.Looks (model X.prog X.w) h3 (typeOf (.ref a)) cls := fun A Q E s k q => wpAny_typeOf_ref (k _ _ he3) (by rw [hz3.1]; exact q)
        have LM := PySem.W.exm_one (M := model X.prog X.w) (J3.kIn) LT hb1
        have test : ∀ {Q : Value → Shared → Prop} {E : Value → Shared → Prop}, Q q.c { s' with heap := h3 } → wpAny (model X.prog X.w) (X.A.mark (some (.ref a))) (eval (.Name x np') X.env) Q E { s' with heap := h3 } := fun {Q E} q => by
          obtain ⟨hg, hdbg, hm | ⟨hm, hv, hnn⟩⟩ := hc
          · exact ld_glob (X := DX.hot X a (X.pn ++ pins)) (Inv.hot J3) hg hm q hdbg
          · exact ld_blt (X := DX.hot X a (X.pn ++ pins)) (Inv.hot J3) hg hm hv q hnn hdbg
        refine test (LM.here ?_)
        cases b with
        | true =>
          obtain ⟨C, dd, rfl, rfl, yes2⟩ := yes rfl
          refine codeAny_handlers_suite_as ?_
          refine HandSPX.lands_againZ fl3 fun h4 fl4 up4 => ?_
          have J4 : Inv X pins σ' H' { s' with heap := h4 } := J.landed nb fl4.1 ((up.trans up3).trans up4) os ag
          obtain ⟨oe4, vs4, he4, hz4, hd4⟩ := fl4.there
          have S4 := Inv.hot (a := a) (Inv.track J4 n0 na he4 hd4 nL np (exk_ok he4 hz4 hd4))
          refine store_ok (X := DX.hot X a (X.pn ++ pins)) (v := .ref a) S4 hN hi (.inl hln) rfl (fun s5 S5 => ?_) (.inr hln)
          refine wpAny_mono ((hsu a C dd (X.pn ++ pins)).run [] s5 _ _ _ S5 (yes2 a na)) (fun f s6 hsp => ?_) (fun _ _ z => False.elim z)
          have end_ : ∀ {σ6 : L2.St} {H6 : Hp} {Q : Shared → Prop}, Inv (DX.hot X a (X.pn ++ pins)) [] σ6 H6 s6 → (∀ s7, Inv X pins (σ6.set q.i none) H6 s7 → Q s7) →
              wpAny (model X.prog X.w) X.A (do bindName X.env n .none; unbindBehindTheSuite X.env n pos') (fun _ s7 => Q s7) X.xe s6 := fun {σ6 H6 Q} S6 hq => gone_ok (Inv.cold S6 ok) hN hi hln hq
          cases f with
          | next =>
            obtain ⟨σ6, H6, S6, q6⟩ := hsp
            exact end_ S6 fun s7 J7 => ⟨_, _, J7, q6⟩
          | brk =>
            obtain ⟨σ6, H6, S6, q6⟩ := hsp
            exact end_ S6 fun s7 J7 => ⟨_, _, J7, q6⟩
          | cont =>
            obtain ⟨σ6, H6, S6, q6⟩ := hsp
            exact end_ S6 fun s7 J7 => ⟨_, _, J7, q6⟩
          | ret u =>
            obtain ⟨v6, σ6, H6, S6, r6, q6⟩ := hsp
            exact end_ S6 fun s7 J7 => ⟨_, _, _, J7, r6, q6⟩
        | false => exact ih (no rfl)
    exact go hh w
  · cases f with
    | next =>
      obtain ⟨σ', H', J', q⟩ := hsp
      exact wpAny_execs_nil ⟨σ', H', J'.ofTry ok, q⟩
    | brk =>
      obtain ⟨σ', H', J', q⟩ := hsp
      exact ⟨σ', H', J'.ofTry ok, q⟩
    | cont =>
      obtain ⟨σ', H', J', q⟩ := hsp
      exact ⟨σ', H', J'.ofTry ok, q⟩
    | ret u =>
      obtain ⟨v, σ', H', J', r, q⟩ := hsp
      exact ⟨v, σ', H', J'.ofTry ok, r, q⟩
end
end DX

namespace DX
open PySem PySem.Spec PyProof.Rows L2 LamX
abbrev par1 (p : Str) (e : Expr) (ap : Pos) : Arguments := { posonlyargs := [], args := [{ arg := p, annotation := none, pos := ap }], vararg := none, kwonlyargs := [], kw_defaults := [], kwarg := none, defaults := [e] }
abbrev par0 : Arguments := { posonlyargs := [], args := [], vararg := none, kwonlyargs := [], kw_defaults := [], kwarg := none, defaults := [] }
theorem bind_dflt {p : Str} {e : Expr} {ap : Pos} {bo : Expr} {scope : Scope} {iv : Int} (M : Model) (A : Around) (S : Shared) (E : Value → Shared → Prop) (Q : List (Str × Value) → Shared → Prop) (q : Str) (cl : List (Str × Addr)) (pm cv tv : Value) (d : Addr) (t0 : Tok)
    (hd : S.heap.get? d = some (tup1 iv t0)) (h : Q [(p, .int iv t0)] S) : wpAny M A (bindArgs (lfn q (par1 p e ap) bo scope cl pm cv tv (.ref d)) ⟨[], []⟩) Q E S := by
  unfold bindArgs
  simp only [List.map_nil, List.nil_append, List.map_cons, List.length_cons, List.length_nil, List.zip_nil_right, List.forIn'_nil, List.forIn_nil, pure_bind, bind_pure]
  refine wpAny_bind (wpAny_seqItems hd rfl ?_)
  rw [if_neg (by decide)]
  have e0 : ((some #[Value.int iv t0] : Option (Array Value)).getD #[]).toList = [Value.int iv t0] := rfl
  simp only [e0, List.length_cons, List.length_nil, Nat.sub_self, List.drop_zero, List.take_zero, List.filter_nil, List.isEmpty_nil, Bool.not_true, Bool.false_eq_true, if_false, List.zip_cons_cons, List.zip_nil_right, List.forIn'_cons, List.forIn_cons, List.forIn_nil, List.lookup_nil, Option.isNone_none, if_true, pure_bind, List.nil_append, List.filterMap_cons, List.filterMap_nil, List.append_nil, List.lookup, beq_self_eq_true, Option.map_some]
  exact wpAny_bind (wpAny_pure (wpAny_pure h))
theorem bind_none {bo : Expr} {scope : Scope} (q : Str) (cl : List (Str × Addr)) (pm cv tv : Value) : bindArgs (PySem.W.kla_fn "<lambda>" q par0 bo scope cl pm cv tv) ⟨[], []⟩ = pure [] := by rfl
end DX

/-! enumerate of a tuple. -/
namespace DX
open PySem PySem.Spec PyProof.Rows L2
theorem enum_new1 {v : Value} {ob : Obj} {Hh : Heap → Prop} (B : Begins v ob Hh) :
    Meets (Builtin.«enumerate.__new__» ⟨[.type "enumerate", v], []⟩) (fun _ R s => Hh s.heap ∧
      R (.ok (.ret (.ref (s.heap.push ob).objs.size))) { s with heap := (s.heap.push ob).push { cls := .type "enumerate", data := .fields #[.none, .bool false, .ref s.heap.objs.size, rawInt 0, .none, .none] } }) :=
  .of_wp fun prog w A R s h => by
    obtain ⟨hp, g, d, tk, os⟩ := s
    obtain ⟨h1, h⟩ := h
    have subE := sub_enumerate
    have q1 : ∀ {A' : Around} {E : Value → Shared → Prop} {Q : Value → Shared → Prop}, Q (.ref hp.objs.size) ⟨hp.push ob, g, d, tk, os⟩ → wpAny (model prog w) A' (pyIter v) Q E ⟨hp, g, d, tk, os⟩ :=
      fun q => B.iter prog w _ _ ⟨hp, g, d, tk, os⟩ _ h1 q
    wp_walk using q1
    refine wpAny_stack_any fun st => wpAny_pure ?_
    split
    · rename_i c _ _ _ _ _
      cases (c == Value.type "enumerate") <;> (wp_walk using q1) <;> exact ⟨_, rfl, h⟩
    · wp_walk using q1
      exact ⟨_, rfl, h⟩
section
variable {prog : Program} {w : World} {A : Around} {E : Value → Shared → Prop} {s : Shared}
theorem enum_begins1 {v : Value} {ob : Obj} {Hh : Heap → Prop} {Q : Value → Shared → Prop} (B : Begins v ob Hh) (h1 : Hh s.heap)
    (h : ∀ h', IsEnum h' (s.heap.objs.size + 1) s.heap.objs.size 0 .none → h'.get? s.heap.objs.size = some ob → h'.objs.size = s.heap.objs.size + 2 →
      (∀ b u, s.heap.get? b = some u → h'.get? b = some u) → Q (.ref (s.heap.objs.size + 1)) { s with heap := h' }) : wpAny (model prog w) A (call (.type "enumerate") [v]) Q E s := by
  refine callType_new F.called_enumerate (by decide) (F.typeCall_enumerate_1 _) (F.newCall_enumerate_1 _) (fun obj => F.args_object_init_2 obj _) F.entry_enumerate_new (enum_new1 B) ⟨h1, ?_⟩
  have sz : (s.heap.push ob).objs.size = s.heap.objs.size + 1 := Heap.size_push ..
  show _ ∧ _
  rw [sz]
  have he : IsEnum ((s.heap.push ob).push { cls := .type "enumerate", data := .fields #[.none, .bool false, .ref s.heap.objs.size, rawInt 0, .none, .none] }) (s.heap.objs.size + 1) s.heap.objs.size 0 .none := by
    have z := Heap.get?_push_size (s.heap.push ob) (o := { cls := .type "enumerate", data := .fields #[.none, .bool false, .ref s.heap.objs.size, rawInt 0, .none, .none] }) rfl
    rw [sz] at z
    exact z
  refine ⟨⟨_, he, rfl⟩, h _ he ?_ (by rw [Heap.size_push, sz]) fun b u x => ?_⟩
  · exact Heap.get?_push_of_some _ (Heap.get?_push_size _ B.free)
  · exact Heap.get?_push_of_some _ (Heap.get?_push_of_some _ x)
end
/-- the tuple at a, each item in a new pair -/
def IteT (K : PySem.W.Frag) (a : Addr) : It :=
  ⟨fun i H => ∃ (xs : List V) (x : V), SqT K H a xs ∧ xs[i]? = some x, fun i H v H' => ∃ T x, v = .ref T ∧ H T = none ∧ H' = upd H T (.tup [.int (i : Nat), x]) ∧ ∀ xs, SqT K H a xs → xs[i]? = some x, fun i H => ∃ xs : List V, SqT K H a xs ∧ xs.length = i⟩
theorem turn_enumT {P : Program} {w : World} {K : PySem.W.Frag} {elts : List Expr} {kk : Nat} {tpos : Pos} (a e it : Addr) (hai : a ≠ it) (hae : a ≠ e) :
    Turn P w K (.Tuple elts kk tpos) (IteT K a) [e, it] e (fun i h => (∃ old, IsEnum h e it ((i : Nat) : Int) old) ∧ h.IsTupleIter it a i ∧ e ≠ it) where
  mem := by simp
  obj := fun i h st b hb => by
    obtain ⟨⟨old, he⟩, ⟨o, ho, hc, hd⟩, _⟩ := st
    rcases (show b = e ∨ b = it from by simpa using hb) with z | z
    · rw [z]
      exact ⟨_, he, fun v q => nomatch q⟩
    · rw [z]
      exact ⟨o, ho, fun v q => by rw [hd] at q; cases q⟩
  keep := fun i h h' st k => let ⟨⟨old, he⟩, hi, hne⟩ := st; ⟨⟨old, k e (by simp) _ he⟩, hi.at fun o q => k it (by simp) o q, hne⟩
  item := by
    intro X hP hw hK hc i pins s σ H E I hf st hg
    subst hP hw hK
    obtain ⟨⟨old, he⟩, hit, hne⟩ := st
    obtain ⟨xs, x, hq, hx⟩ := hg
    obtain ⟨its, rv, p, hz⟩ := I.tuple hq
    obtain ⟨u, hu, ru⟩ := rv.get hx
    have hlt : i < its.toArray.size := by simpa using (List.getElem?_eq_some_iff.mp hu).1
    have hel : e < s.heap.objs.size := Heap.lt_size he
    have hil : it < s.heap.objs.size := by obtain ⟨_, q, _⟩ := hit; exact Heap.lt_size q
    have hh : X.A.in1.handled = none := I.ok.hd hc
    refine wpAny_pyNext_enum_itemC (c := ((i : Nat) : Int)) (Draws.tuple hh it a hai its.toArray) he ⟨hit, p⟩ hlt hne (by simp [hne, Ne.symm hae]) fun y h' tk hy ho st' hT hsz hk => ?_
    have ey : y = u := by
      rw [List.getElem?_toArray, hu] at hy
      exact (Option.some.inj hy).symm
    subst ey
    refine ⟨_, rfl, wpAny_letOwnedTupleGo_enum (s := { s with heap := h', toks := tk + 1 }) ho fun h'' he' sb => ?_⟩
    have hT2 : h''.get? s.heap.objs.size = some { cls := .type "tuple", data := .seq #[.int i tk, y] } := (sb.2 _ (Nat.ne_of_gt hel)).trans hT
    have new : ObjOk X.prog X.w (upd H s.heap.objs.size (.tup [.int (i : Nat), x])) h'' s.heap.objs.size (.tup [.int (i : Nat), x]) :=
      ⟨by show 2 ≤ sizeLine; decide, [.int i tk, y], .cons ⟨_, rfl⟩ (.cons ru .nil), ⟨_, hT2, rfl, _, rfl⟩⟩
    have I1 : Inv X pins σ (upd H s.heap.objs.size (.tup [.int (i : Nat), x])) { s with heap := h'', toks := tk + 1 } :=
      I.turnedNew (ch := [e, it]) (fun b ob hb q => (sb.2 b (fun z => hb (by simp [z]))).trans (hk b ob (fun z => hb (by simp [z])) (fun z => hb (by simp [z])) q)) hf (Nat.le_refl _) new
    refine ⟨.ref s.heap.objs.size, _, I1, rfl, ⟨_, x, rfl, I.hok.fresh (Nat.le_refl _), rfl, fun ys hy => by rw [I.tuple_inj hy hq]; exact hx⟩, ⟨⟨y, ?_⟩, st'.1.at fun o q => (sb.2 it (Ne.symm hne)).trans q, hne⟩, fun b hb => ?_⟩
    · have e1 : ((i + 1 : Nat) : Int) = (i : Int) + 1 := by omega
      rw [e1]
      exact he'
    · have hb' : b < s.heap.objs.size := by
        rcases (show b = e ∨ b = it from by simpa using hb) with z | z
        · rw [z]
          exact hel
        · rw [z]
          exact hil
      rw [upd_ne (Nat.ne_of_lt hb')]
      exact (hf b hb).1
  done := by
    intro X hP hw hK hc i pins s σ H E I hf st hg
    subst hP hw hK
    obtain ⟨⟨old, he⟩, hit, hne⟩ := st
    obtain ⟨xs, hq, hx⟩ := hg
    obtain ⟨its, rv, p, hz⟩ := I.tuple hq
    obtain ⟨f0, f1, f2, f3, f4, f5⟩ := hf it (by simp)
    have hl := rv.length
    have hn : its.toArray.size = i := by simp; omega
    have hh : X.A.in1.handled = none := I.ok.hd hc
    refine wpAny_pyNext_enum_endD (Draws.tuple hh it a hai its.toArray) he (by rw [hn]; exact ⟨hit, p⟩) fun h' eb => ⟨rfl, I.turned (t' := s.toks) (fun b o hb q => eb b o hb q) f0 f1 f3 f4 f5⟩
  self := fun A i s Q E st h => let ⟨⟨_, he⟩, _⟩ := st; wpAny_pyIter_enum he h
def iEnumT (K : PySem.W.Frag) (ta : TA) : TI := fun σ H R => ta σ H fun vs H1 => ∃ a xs, vs = [.ref a] ∧ SqT K H1 a xs ∧ R (IteT K a) H1
theorem pi_enumT {X : Cx} {e : Expr} {ta : TA} {p pos tpos : Pos} {elts : List Expr} {kk : Nat} (hg : Gl X "enumerate") (hm : X.mg "enumerate" = none) (ha : PA X [e] ta) (hs : starEach [e] X.env = [(false, eval e X.env)] := by rfl) :
    PI X (.Tuple elts kk tpos) (.Call (.Name "enumerate" p) [e] [] pos) (iEnumT X.K ta) := by
  refine ⟨fun pins s σ H R I h => ?_⟩
  refine Call_ (ld_blt I hg hm boot_enumerate (PyProof.Rows.callWith_type1 (thn (ha.run pos pins s σ H _ I h) fun us s1 ⟨vs, H1, I1, r1, a, xs, ev, hq, q⟩ => ?_) hs rfl))
  subst ev
  cases r1 with
  | cons r rr =>
    cases rr
    cases r
    obtain ⟨its, rv, pt, hz⟩ := I1.tuple hq
    have hlt : a < s1.heap.objs.size := by
      obtain ⟨o, q, _⟩ := pt
      exact Heap.lt_size q
    refine enum_begins1 (begins_tuple a its.toArray) pt fun h' he hit hsz hk => wpAny_pyIter_enum he ?_
    have I2 : Inv X pins σ H1 { s1 with heap := h' } := I1.kept (t' := s1.toks) hk
    refine ⟨s1.heap.objs.size + 1, [s1.heap.objs.size + 1, s1.heap.objs.size], _, _, H1, rfl, I2, turn_enumT a (s1.heap.objs.size + 1) s1.heap.objs.size (Nat.ne_of_lt hlt) (Nat.ne_of_lt (Nat.lt_succ_of_lt hlt)), ⟨⟨.none, he⟩, ⟨_, hit, rfl, rfl⟩, Nat.succ_ne_self _⟩, fun b hb => ?_, q⟩
    have hle : s1.heap.objs.size ≤ b := by
      rcases (show b = s1.heap.objs.size + 1 ∨ b = s1.heap.objs.size from by simpa using hb) with z | z
      · rw [z]
        exact Nat.le_add_right _ _
      · rw [z]
        exact Nat.le_refl _
    exact I1.fpOk hle (I1.hok.fresh hle)
end DX

/-! len(set(tuple of ints)), t.index(x) of a tuple, repr. -/
namespace DX
open PySem PySem.Spec PyProof.Rows L2 PySem.Builtin
/-- each one once -/
def dd : List Int → List Int
  | [] => []
  | n :: ns => if n ∈ dd ns then dd ns else n :: dd ns
theorem dd_mem : ∀ {ns : List Int} {k : Int}, k ∈ dd ns ↔ k ∈ ns
  | [], k => Iff.rfl
  | n :: ns, k => by
    unfold dd
    split
    · rename_i h
      rw [dd_mem (ns := ns), List.mem_cons]
      constructor
      · exact .inr
      · rintro (rfl | z)
        · exact dd_mem.mp h
        · exact z
    · rw [List.mem_cons, List.mem_cons, dd_mem (ns := ns)]
theorem dd_nodup : ∀ ns : List Int, (dd ns).Nodup
  | [] => List.nodup_nil
  | n :: ns => by
    unfold dd
    split
    · exact dd_nodup ns
    · rename_i h
      exact List.nodup_cons.mpr ⟨h, dd_nodup ns⟩
theorem dd_le : ∀ ns : List Int, (dd ns).length ≤ ns.length
  | [] => Nat.le_refl _
  | n :: ns => by
    unfold dd
    have := dd_le ns
    split <;> simp <;> omega
theorem dd_eq : ∀ {ns : List Int}, (dd ns).length = ns.length ↔ ns.Nodup
  | [] => by simp [dd]
  | n :: ns => by
    have h1 := dd_le ns
    have h2 := dd_eq (ns := ns)
    unfold dd
    rw [List.nodup_cons]
    split
    · rename_i h
      constructor
      · intro e
        simp at e
        omega
      · rintro ⟨a, _⟩
        exact absurd (dd_mem.mp h) a
    · rename_i h
      rw [List.length_cons, List.length_cons]
      constructor
      · intro e
        exact ⟨fun z => h (dd_mem.mpr z), h2.mp (by omega)⟩
      · rintro ⟨_, b⟩
        rw [h2.mpr b]
theorem dd_size {l ns : List Int} (nd : l.Nodup) (h : ∀ k, k ∈ ns ↔ k ∈ l) : l.length = (dd ns).length :=
  ((List.perm_ext_iff_of_nodup nd (dd_nodup ns)).mpr fun k => by rw [dd_mem, h]).length_eq
def tLenSetT (K : PySem.W.Frag) (ta : TE) : TE := fun σ H Q => ta σ H fun x H1 => ∃ (l : Addr) (ns : List Int), x = .ref l ∧ SqT K H1 l (ns.map V.int) ∧ ns.length ≤ 1000 ∧ Q (.int ((dd ns).length : Nat)) H1
theorem pe_lenSetT {X : Cx} {a : Expr} {ta : TE} {p p2 q pos : Pos} (hg : Gl X "len") (hm : X.mg "len" = none) (hg2 : Gl X "set") (hm2 : X.mg "set" = none) (ha : PE X a ta) (hc : X.calm = true)
    (na : starEach [a] X.env = (false, eval a X.env) :: starEach [] X.env := by rfl) : PE X (.Call (.Name "len" p) [.Call (.Name "set" p2) [a] [] q] [] pos) (tLenSetT X.K ta) := by
  refine ⟨fun pins s σ H Q I h => ?_⟩
  refine Call_ (ld_blt I hg hm boot_len ?_)
  refine PyProof.Rows.callWith_builtin1 (PyProof.Rows.args_cons ?_ rfl) rfl rfl
  refine Call_ (ld_blt I hg2 hm2 boot_set ?_)
  refine PyProof.Rows.callWith_type1 (PyProof.Rows.args_cons (thn (ha.run pins s σ H _ I h) fun v s1 ⟨x, H1, I1, r1, l, ns, ex, hq, hl, q1⟩ => PyProof.Rows.args_nil ?_) na) na rfl
  subst ex
  cases r1
  obtain ⟨its, r, pt, hz⟩ := I1.tuple hq
  have hi : IntsAre its.toArray.toList ns := ints_of_vals r
  refine call_set_tupI ns (I1.ok.hd hc) (show s1.heap.IsTuple l its.toArray from pt) hi (by unfold scanBound; omega) fun h' tk c R1 hcn hk => ?_
  refine PyProof.Rows.args_nil ?_
  obtain ⟨o, es, ep, t, ho, hex, hd, g, nd, hm3, hb, hf, hn, _⟩ := R1
  have I2 : Inv X pins σ H1 { s1 with heap := h', toks := tk } := I1.kept hk
  have e1 : es.size = (dd ns).length := by
    have z := dd_size (ns := ns) nd fun k => by rw [← hm3 k, decide_eq_true_eq]
    rw [← z, List.length_map, Array.length_toList]
  exact call_len_set ho hex hd hf (by rw [hn]; omega) ⟨.int ((dd ns).length : Nat), H1, I2.tok _, ⟨_, by rw [e1]⟩, q1⟩
theorem tuple_indexAt (l : Addr) (items : Array Value) (n : Nat) (dd : Option Addr) (sl : Array (Option Value)) (x : Value) (e : Value → Bool) (j : Nat) (hj : j < items.size) 
    (hit : e items[j] = true) (hno : ∀ m (hm : m < items.size), m < j → e items[m] = false) :
    Meets (Builtin.«tuple.index» ⟨[.ref l, x], []⟩)
      (fun A R s => s.heap.get? l = some { cls := .type "tuple", dict := dd, data := .seq items n, slots := sl } ∧ (∀ y, y ∈ items → SeqAt.EqAt A.in1 s y x (e y)) ∧ R (.ok (.ret (.int j s.toks))) { s with toks := s.toks + 1 }) := by
  intro prog w A R s h
  obtain ⟨hp, g, d, tk, os⟩ := s; obtain ⟨hl, he, h⟩ := h
  have key : ∀ (E : Value → Shared → Prop) (Q : Option Fin × Unit → Shared → Prop), Q (some (.done (.ret (.int j tk))), ()) ⟨hp, g, d, tk + 1, os⟩ →
      wpAny (model prog w) A.in1 (forIn ([0:min items.size items.size] : Std.Legacy.Range) ((none, ()) : Option Fin × Unit) fun (i : Nat) __s => match items[i]? with
            | some y => do
              let __do_lift ← eqBool y x
              if __do_lift = true then do
                  let __do_lift ← retInt (i : Int)
                  pure (ForInStep.done (some __do_lift, ()))
                else pure (ForInStep.yield (none, ()))
            | x => pure (ForInStep.yield (none, ()))) Q E ⟨hp, g, d, tk, os⟩ := by
    intro E Q hQ
    refine SeqAt.wpAny_forIn_span _ _ _ (fun i c s => c = (none, ()) ∧ s = ⟨hp, g, d, tk, os⟩ ∧ i ≤ j) _ (fun i c s h0 h1 ⟨h2, h3, h4⟩ => ?_) (fun c s ⟨h2, h3, h4⟩ => ?_) _ ⟨rfl, rfl, Nat.zero_le _⟩
    · subst h2 h3
      have hi : i < items.size := by omega
      rw [Array.getElem?_eq_getElem hi]
      refine wpAny_bind (he items[i] (Array.getElem_mem hi) prog w _ _ ?_)
      by_cases hij : i = j
      · subst hij
        rw [hit, if_pos rfl]
        unfold retInt
        exact wpAny_bind (wpAny_bind (wpAny_mkInt (wpAny_pure (wpAny_pure hQ))))
      · rw [hno i hi (by omega), if_neg Bool.false_ne_true]
        exact wpAny_pure ⟨rfl, rfl, by omega⟩
    · omega
  have h' : R (.ok (.ret (.int j tk))) ⟨hp, g, d, tk + 1, os⟩ := h
  have hl' : hp.get? l = some { cls := .type "tuple", dict := dd, data := .seq items n, slots := sl } := hl
  repeat (any_goals (first | refine wpAny_bind (key _ _ ?_) | with_reducible refine wpAny_loadPart' hl' ?_ | wp_step))
  exact h'
def rIndexT (K : PySem.W.Frag) : V → List V → Hp → VK → Prop := fun x vs H Q => ∃ (a : Addr) (ys : List V) (y : V) (j : Nat) (z : V), x = .ref a ∧ vs = [y] ∧ SqT K H a ys ∧ flatV y = true ∧ ys.all flatV = true ∧ ys[j]? = some z ∧ eqV z y = true ∧
  (∀ (m : Nat) (z' : V), m < j → ys[m]? = some z' → eqV z' y = false) ∧ Q (.int (j : Nat)) H
theorem mt_indexT {X : Cx} : MtM X "tuple.index" (rIndexT X.K) := by
  intro pins s σ H x xs v us Q I rx rxs h
  obtain ⟨a, ys, y, j, z, rfl, rfl, hs, fy, fys, hz, hzj, hno, q⟩ := h
  cases rx
  cases rxs with
  | cons ry rt =>
    rename_i uy ut
    cases rt
    obtain ⟨its, rv, ⟨⟨cls, od, data, sl⟩, ho, hc, n, hd⟩, hlen⟩ := I.tuple hs
    simp only at hc hd
    subst hc hd
    obtain ⟨u, hu, ru⟩ := rv.get hz
    obtain ⟨jl, je⟩ := List.getElem?_eq_some_iff.mp hu
    have hj : j < its.toArray.size := by simpa using jl
    have vl := rv.length
    refine call_meets PySem.F.slot_tuple_index ⟨_, ho, rfl⟩ PySem.F.entry_tuple_index (PySem.F.args_tuple_index_2 _ _) (tuple_indexAt a its.toArray n od sl uy (eqU y) j hj ?_ ?_) ⟨ho, fun u' hu' => mem_eqAt ry fy rv fys u' (by simpa using hu'), ?_⟩
    · have e1 : its.toArray[j] = u := by simpa using je
      rw [e1, eqU_of ru (flat_at fys hz)]
      exact hzj
    · intro m hm hmj
      have ml : m < its.length := by simpa using hm
      have my : m < ys.length := by omega
      have hy' : ys[m]? = some ys[m] := List.getElem?_eq_getElem my
      obtain ⟨u2, hu2, ru2⟩ := rv.get hy'
      obtain ⟨_, me⟩ := List.getElem?_eq_some_iff.mp hu2
      have e1 : its.toArray[m] = u2 := by simpa using me
      rw [e1, eqU_of ru2 (flat_at fys hy')]
      exact hno m _ hmj hy'
    · exact ⟨.int (j : Nat), H, I.tok _, ⟨_, rfl⟩, q⟩
/-- repr of lists and tuples at any depth -/
def rRepr (K : PySem.W.Frag) : List V → Hp → VK → Prop := fun xs H Q => ∃ (a : Addr) (d : PyData), xs = [.ref a] ∧ Dp K H (.ref a) d ∧ d.showable = true ∧ d.hasDict = false ∧ d.depth ≤ 60 ∧ d.shown.length ≤ sizeLine ∧ Q (.str d.shown) H
theorem cr_repr {X : Cx} (hg : X.A.guards = some []) (hu : X.A.units + 64 < cLine) : CallR X (.builtin "repr") (rRepr X.K) := by
  intro pins s σ H xs us Q I r h
  obtain ⟨a, d, rfl, hd, hs, hn, h60, hl, q⟩ := h
  obtain ⟨u, rfl, rx⟩ := vals1 r
  obtain ⟨as, rd⟩ := Dp.reads I d (.ref a) u hd rx
  cases rx
  exact repr_of_reads' rd hs (PyData.noDict_hsm hn) hg (by omega) (fun _ _ e => e) (fun h' u tk hk => ⟨.str d.shown, H, I.kept hk, ⟨_, rfl⟩, q⟩) hl
end DX

/-! defs as before, called where nothing is being shown (repr). -/
namespace DX
open PySem PySem.Spec PyProof.Rows L2
/-- a def keeps its promise wherever no repr runs -/
structure FnG (P : Program) (w : World) (K : PySem.W.Frag) (mg : Str → Option Value) (base : Heap) (CX : CXT) (k : Nat) (f : Addr) (fd : FuncData) (ps : List Str) (sp : Sp) : Prop where
  len : ∀ vs H Q E, sp vs H Q E → vs.length = ps.length
  run : ∀ (A : Around) (outer : List Env) (s : Shared) (H : Hp) (args : Args) (us : List Value) (vs : List V) (Q : VK) (E : XK), Room k A → A.guards = some [] → Env0 P w K mg base A outer s H → BindsTo s fd args (ps.zip us) → Vals vs us → sp vs H Q E →
    codeAny (model P w) A (.call (.ref f) args) (CR CX outer P w H s Q E) s
section
variable {P : Program} {w : World} {K : PySem.W.Frag} {mg : Str → Option Value} {base : Heap}
theorem FnG.of {CX : CXT} {k : Nat} {f : Addr} {fd : FuncData} {ps : List Str} {sp : Sp} (F : FnOk P w K mg base CX k f fd ps sp) : FnG P w K mg base CX k f fd ps sp := ⟨F.len, fun A outer s H args us vs Q E hr _ => F.run A outer s H args us vs Q E hr⟩
theorem FnG.mono {CX : CXT} {j k : Nat} {f : Addr} {fd : FuncData} {ps : List Str} {sp : Sp} (F : FnG P w K mg base CX j f fd ps sp) (h : j ≤ k) : FnG P w K mg base CX k f fd ps sp := ⟨F.len, fun A outer s H args us vs Q E hr => F.run A outer s H args us vs Q E (hr.mono h)⟩
theorem fun_okG {CX : CXT} {x qual : Str} {st : Stmt} {f : Addr} {fd : FuncData} {N ps : List Str} {k : Nat} {sp : Sp} (F : Fun K x qual st f fd) (S : FnScope N ps (defScope st)) (len : ∀ vs H Q E, sp vs H Q E → vs.length = ps.length)
    (body : ∀ (cdv : Value) (A : Around) (outer : List Env) (s : Shared) (H : Hp) (vs : List V) (Q : VK) (E : XK), (∃ oc od osl, K.lookup f = some ⟨oc, od, .func fd, osl⟩ ∧ fd.code = cdv) → Room k (A.deeper (envOfC qual (defScope st) s.heap.objs.size f cdv)) → A.guards = some [] → sp vs H Q E →
      ∃ t, PSs (cxOf CX P w K mg base N qual (defScope st) f cdv A outer s H E) (defBody st) t ∧ t { nx := fun _ H' => Q .non H', rt := Q } (L2.start N vs) H) : FnG P w K mg base CX (k + 1) f fd ps sp := by
  obtain ⟨oc, od, kV, doc, pm, an, cdv, ct, osl, rfl, lk, hcd⟩ := F.ex
  refine ⟨len, fun A outer s H args us vs Q E hr hg e0 hb r h => ?_⟩
  exact LamX.run_ofS lk hcd S hr e0 hb r (len _ _ _ _ h) fun hr' => body cdv A outer s H vs Q E ⟨oc, od, osl, lk, rfl⟩ hr' hg h
end
section
variable {X : Cx} {CX : CXT} {k : Nat} {f : Addr} {fd : FuncData} {ps : List Str} {sp : Sp} {E : L2.St → XK} {x : Str} {p pos : Pos} {e : Expr} {es : List Expr} {t : TA}
theorem run_fnG {pins : List (Addr × Obj)} {σ : L2.St} {H : Hp} {s : Shared} {Q : VK} {us : List Value} {vs : List V} (F : FnG X.prog X.w X.K X.mg X.base CX k f fd ps sp) (hr : Room k X.A) (hg : X.A.guards = some []) (hb : Binds X.K fd ps []) (hx : PassesAt CX X σ (E σ))
    (I : Inv X pins σ H s) (r : Vals vs us) (h : sp vs H Q (E σ)) : wpAny (model X.prog X.w) X.A (call (.ref f) us) (EP X pins σ Q) X.xe s := by
  have hl : us.length = ps.length := by rw [← r.length]; exact F.len _ _ _ _ h
  have b := hb s us I.kIn (by rw [List.append_nil]; exact hl)
  rw [List.append_nil] at b
  refine wpAny_call (codeAny_mono (F.run X.A X.stack s H ⟨us, []⟩ us vs Q (E σ) hr hg I.env0 b r h) fun q s' hq => ?_)
  cases q with
  | error e => exact hx pins H s e s' I hq
  | ok fl =>
    cases fl with
    | ret u => exact I.after hq
    | next => exact hq.elim
    | brk => exact hq.elim
    | cont => exact hq.elim
theorem pe_callG (F : FnG X.prog X.w X.K X.mg X.base CX k f fd ps sp) (hr : Room k X.A) (hgd : X.A.guards = some []) (hg : Gl X x) (hm : X.mg x = some (.ref f)) (hk : PySem.W.keepIn X.K (.ref f) = true) (hb : Binds X.K fd ps []) (hx : ∀ σ, PassesAt CX X σ (E σ))
    (ha : PA X (e :: es) t) (hdb : (x == ("__debug__" : Str)) = false := by decide) (he : starEach (e :: es) X.env = (false, eval e X.env) :: starEach es X.env := by rfl) (hpl : (backTo pos (starEach es X.env)).any (·.1) = false := by rfl) :
    PE X (.Call (.Name x p) (e :: es) [] pos) (fun σ H Q => t σ H fun vs H1 => sp vs H1 Q (E σ)) := by
  refine ⟨fun pins s σ H Q I h => ?_⟩
  refine wpAny_Call_Name_kw (ld_glob I hg hm ?_ hdb)
  refine PySem.W.callWith_K (h₀ := X.base) I.ok.mod.kin hk (thn (ha.run pos pins s σ H _ I h) fun us s1 ⟨vs, H1, I1, r, q⟩ => ⟨I1.kIn, ?_⟩) he hpl
  exact run_fnG F hr hgd hb (hx σ) I1 r q
theorem passAt0 {σ : L2.St} {E : XK} : PassesAt C8.CX0 X σ E := fun _ _ _ _ _ _ h => h.elim
theorem passAt0' {σ : L2.St} {E : XK} : PassesAt (fun _ _ _ _ _ _ => False) X σ E := fun _ _ _ _ _ _ h => h.elim
end
end DX

/-! sorted(tuple of ints). -/
namespace DX
open PySem PySem.Spec PyProof.Rows L2 SrtO
def rSortedT (K : PySem.W.Frag) : List V → Hp → VK → Prop := fun vs H Q => ∃ (a : Addr) (ns : List Int), vs = [V.ref a] ∧ SqT K H a (ns.map V.int) ∧
  ∀ (ns' : List Int) (p : Addr), ns'.Perm ns → ns'.Pairwise (· ≤ ·) → H p = none → Q (.ref p) (upd H p (.lst (ns'.map V.int)))
theorem cr_sortedT {X : Cx} : CallR X (.builtin "sorted") (rSortedT X.K) := by
  intro pins s σ H us vs Q I r h
  obtain ⟨a, ns, rfl, hs, q⟩ := h
  obtain ⟨its, rv, pt, hz⟩ := I.tuple hs
  rw [Vals.ref1 r]
  have hi := rv.ints
  obtain ⟨o, ho, hc, n, hd⟩ := pt
  refine Calls.call_function_entry kind_sorted plain_sorted entry_sorted (args_sorted1 _) ?_
  unfold Builtin.«sorted»
  refine wpAny_bind (m := checkCount "sorted" 1 1 _) (wpAny_pure ?_)
  have hz' : its.toArray.size ≤ sizeLine := by rw [List.size_toArray, ← rv.length]; exact hz
  refine wpAny_bind (wpAny_collect_seq (hsz := hz') a (.inr rfl) ho hc hd fun h' hk => ?_)
  have e0 : its.toArray.toList = its := by simp
  rw [e0]
  have hz2 : its.length ≤ sizeLine := by rw [← rv.length]; exact hz
  refine wpAny_bind (PySem.wpAny_newList ?_ hz2)
  have hoL : (h'.push (seqObj "list" its.toArray 0)).get? h'.objs.size = some (seqObj "list" its.toArray 0) := Heap.get?_push_size _ rfl
  show wpAny _ _ _ _ _ { s with heap := h'.push (seqObj "list" its.toArray 0) }
  refine wpAny_bind (wpAny_holding (wpAny_call_entry slot_list_sort ⟨_, hoL, rfl⟩ entry_list_sort (list_sort_ord swo_int hoL hz2 (fun h2 => ints_sortable hi h2) fun out h1 h2 => ⟨_, rfl, ?_⟩) (args_list_sort _)))
  obtain ⟨k1, k2, k3⟩ := ints_out hi h1 h2
  obtain ⟨ep, he'⟩ := sortedHeap_at (vs := its) (out := out.toArray) hoL
  have hlen : ((out.map iv).map V.int).length ≤ sizeLine := by
    rw [List.length_map, k2.length_eq]
    rw [List.length_map] at hz
    exact hz
  refine wpAny_pure ⟨_, rfl, ?_⟩
  have I1 : Inv X pins σ H { s with heap := h' } := I.kept (t' := s.toks) hk
  refine ⟨.ref _, upd H h'.objs.size (.lst ((out.map iv).map V.int)), I1.laid (t' := s.toks) (fun b o e => ?_) (Nat.le_refl _) ⟨hlen, out, ep, vals_of_ints k1, he'⟩, rfl, q _ _ k2 k3 (I1.hok.fresh (Nat.le_refl _))⟩
  have hlt := Heap.lt_size e
  rw [sortedHeap_old (Nat.ne_of_lt hlt) (by rw [size_push']; exact Nat.lt_succ_of_lt hlt), Heap.get?_push_ne _ _ _ (Nat.ne_of_lt hlt)]
  exact e
end DX

/-! tuples that are known to have no dict (their methods can be called). -/
namespace DX
open PySem PySem.Spec PyProof.Rows L2 HT
/-- a new tuple: plain, or as the keys of dicts are -/
def QO : Bool → HO → List V → Prop
  | true, u, xs => ∃ o, u = .frz o (.tup xs) ∧ o.cls = .type "tuple" ∧ o.dict = none
  | false, u, xs => u = .tup xs
def qo (b : Bool) (its : List Value) (n : Nat) (xs : List V) : HO := if b then .frz { cls := .type "tuple", data := .seq its.toArray n } (.tup xs) else .tup xs
theorem qo_ok (b : Bool) (its : List Value) (n : Nat) (xs : List V) : QO b (qo b its n xs) xs := by
  cases b with
  | true => exact ⟨_, rfl, rfl, rfl⟩
  | false => exact rfl
section
variable {X : Cx} {pins : List (Addr × Obj)} {σ : L2.St} {H : Hp} {s : Shared}
theorem laidQ (b : Bool) {its : List Value} {xs : List V} (I : Inv X pins σ H s) (hz : xs.length ≤ sizeLine) (rv : Vals xs its) :
    ∃ u, QO b u xs ∧ H s.heap.objs.size = none ∧ Inv X pins σ (upd H s.heap.objs.size u) { s with heap := s.heap.push { cls := .type "tuple", data := .seq its.toArray } } := by
  refine ⟨qo b its 0 xs, qo_ok b its 0 xs, I.hok.fresh (Nat.le_refl _), I.laid (t' := s.toks) (fun c o e => Heap.get?_push_of_some _ e) (Nat.le_refl _) ?_⟩
  have base : ObjOk X.prog X.w (upd H s.heap.objs.size (qo b its 0 xs)) (s.heap.push { cls := .type "tuple", data := .seq its.toArray }) s.heap.objs.size (.tup xs) := ⟨hz, its, rv, ⟨_, Heap.get?_push_size _ rfl, rfl, _, rfl⟩⟩
  cases b with
  | true => exact ⟨Heap.get?_push_size _ rfl, base⟩
  | false => exact base
/-- (a, b, ..) -/
def tTupQ (b : Bool) (t : TA) : TE := fun σ H Q => t σ H fun xs H1 => xs.length ≤ sizeLine ∧ ∀ p u, QO b u xs → H1 p = none → Q (.ref p) (upd H1 p u)
theorem pe_tupQ (b : Bool) {es : List Expr} {x1 : Nat} {pos : Pos} {t : TA} (h : PA X es t) : PE X (.Tuple es x1 pos) (tTupQ b t) := by
  refine ⟨fun pins s σ H Q I hq => ?_⟩
  refine wpAny_Tuple_spliced (thn (h.run pos pins s σ H _ I hq) fun us s1 ⟨xs, H1, I1, r, z, q⟩ => ⟨by rw [← r.length]; exact z, ?_⟩)
  obtain ⟨u, h1, h2, h3⟩ := laidQ b I1 z r
  exact ⟨.ref s1.heap.objs.size, _, h3, rfl, q _ _ h1 h2⟩
/-- tuple(list) -/
def rTupQ (b : Bool) (K : PySem.W.Frag) : List V → Hp → VK → Prop := fun vs H Q => ∃ p xs, vs = [.ref p] ∧ SqL K H p xs ∧ ∀ q u, QO b u xs → H q = none → Q (.ref q) (upd H q u)
theorem cr_tupQ (b : Bool) : CallR X (.type "tuple") (rTupQ b X.K) := by
  intro pins s σ H vs us Q I r h
  obtain ⟨p, xs, rfl, hs, q⟩ := h
  rw [Vals.ref1 r]
  obtain ⟨its, rv, pl, hz⟩ := I.list hs
  refine call_tuple_list pl.isList (fun h' hk => ?_) (by rw [List.size_toArray, ← rv.length]; exact hz)
  have I1 : Inv X pins σ H { s with heap := h' } := I.kept (t' := s.toks) hk
  obtain ⟨u, h1, h2, h3⟩ := laidQ b I1 hz rv
  exact ⟨.ref h'.objs.size, _, h3, rfl, q _ _ h1 h2⟩
/-- tuple(range(..)) -/
def tTupRgQ (b : Bool) (te : L2.St → Hp → (Int → Int → Hp → Prop) → Prop) : TE := fun σ H Q => te σ H fun lo hi H1 => RgOk lo hi ∧ ∀ q u, QO b u (rgV lo hi) → H1 q = none → Q (.ref q) (upd H1 q u)
theorem pe_tupRgQ (b : Bool) {e : Expr} {te : L2.St → Hp → (Int → Int → Hp → Prop) → Prop} {p pos : Pos} (hc : X.calm = true) (hg : Gl X "tuple") (hm : X.mg "tuple" = none) (he : PRg X e te) (na : starEach [e] X.env = (false, eval e X.env) :: starEach [] X.env := by rfl) : PE X (.Call (.Name "tuple" p) [e] [] pos) (tTupRgQ b te) := by
  refine ⟨fun pins s σ H Q I h => ?_⟩
  refine Call_ (ld_blt I hg hm boot_tuple (PyProof.Rows.callWith_type1 (PyProof.Rows.args_cons (thn (he pins s σ H _ I h) fun x s1 ⟨r, a, c, t, u, v, H1, ex, hr, I1, ok, q⟩ => PyProof.Rows.args_nil ?_) na) na))
  subst ex
  obtain ⟨b1, b2, b3, b4, b5⟩ := ok
  refine call_tuple_range (n := (c - a).toNat) (I1.ok.hd hc) hr (small_one b1 b2 b3 b4) (rangeSize_nat a c) b5 fun h' tk acc hk hi => ?_
  have I2 : Inv X pins σ H1 { s1 with heap := h', toks := tk } := I1.kept hk
  have hz : (rgV a c).length ≤ sizeLine := by rw [rgV_length, sizeLine_eq]; omega
  obtain ⟨w, h1, h2, h3⟩ := laidQ b I2 hz (vals_rg hi)
  rw [Array.toArray_toList] at h3
  exact ⟨.ref h'.objs.size, _, h3, rfl, q _ _ h1 h2⟩
/-- t[lo:hi]: the whole of it is t itself -/
def rSlQ (b : Bool) (K : PySem.W.Frag) : V → Option Int → Option Int → Hp → VK → Prop := fun x lo hi H Q => ∃ a xs, x = .ref a ∧ SqT K H a xs ∧
  (sIx xs.length 0 lo = 0 ∧ sIx xs.length xs.length hi = xs.length → Q (.ref a) H) ∧ (¬ (sIx xs.length 0 lo = 0 ∧ sIx xs.length xs.length hi = xs.length) → ∀ p u, QO b u (cutV xs lo hi) → H p = none → Q (.ref p) (upd H p u))
theorem sl_tupQ (b : Bool) : SlR X (rSlQ b X.K) := by
  intro pins s σ H x v vl vu lo hi sl Q I rx hs pl pu h
  obtain ⟨a, xs, rfl, hx, q1, q2⟩ := h
  cases rx
  obtain ⟨its, r, ht, hz⟩ := I.tuple hx
  have hlen : its.toArray.size = xs.length := by rw [List.size_toArray]; exact r.length.symm
  by_cases hw : sIx xs.length 0 lo = 0 ∧ sIx xs.length xs.length hi = xs.length
  · refine ⟨"tuple", _, PyProof.Rows.slot_tuple_getitem.lookup, ht.typeIs, ?_⟩
    exact getItem_tuple_whole ht hs pl pu (by rw [hlen]; exact hw) ⟨.ref a, H, I, rfl, q1 hw⟩
  · refine ⟨"tuple", _, PyProof.Rows.slot_tuple_getitem.lookup, ht.typeIs, ?_⟩
    refine getItem_tuple_cut ht hs pl pu (by rw [hlen]; exact hw) ?_ (by rw [hlen]; exact hz)
    rw [hlen]
    obtain ⟨u, h1, h2, h3⟩ := laidQ b I (Nat.le_trans (cutV_length xs lo hi) hz) ((r.drop (sIx xs.length 0 lo)).take (sIx xs.length xs.length hi - sIx xs.length 0 lo))
    exact ⟨.ref s.heap.objs.size, _, h3, rfl, q2 hw _ _ h1 h2⟩
/-- t + u -/
def rCatQ (b : Bool) (K : PySem.W.Frag) : R2 := fun x y H Q => ∃ a c xs ys, x = .ref a ∧ y = .ref c ∧ SqT K H a xs ∧ SqT K H c ys ∧ xs.length + ys.length ≤ sizeLine ∧
  (xs = [] → Q (.ref c) H) ∧ (xs ≠ [] → ys = [] → Q (.ref a) H) ∧ (xs ≠ [] → ys ≠ [] → ∀ p u, QO b u (xs ++ ys) → H p = none → Q (.ref p) (upd H p u))
theorem op_catQ (b : Bool) : OpR X (binaryOp .Add) (rCatQ b X.K) := by
  intro pins s σ H x y v u Q I rx ry h
  obtain ⟨a, c, xs, ys, rfl, rfl, ha, hb, hz, q0, q1, q2⟩ := h
  cases rx
  cases ry
  obtain ⟨its, r1, p1, _⟩ := I.tuple ha
  obtain ⟨its2, r2, p2, _⟩ := I.tuple hb
  by_cases hx : xs = []
  · subst hx
    cases r1
    exact cat_tup0 p1 p2 ⟨.ref c, H, I, rfl, q0 rfl⟩
  · refine cat_tup p1 p2 (fun z => hx (r1.nil_iff.mp z)) (fun z => ⟨.ref a, H, I, rfl, q1 hx (r2.nil_iff.mp z)⟩) (fun z => ?_) (by rw [← r1.length, ← r2.length]; exact hz)
    obtain ⟨u, h1, h2, h3⟩ := laidQ b I (by rw [List.length_append]; exact hz) (r1.append r2)
    exact ⟨.ref s.heap.objs.size, _, h3, rfl, q2 hx (fun w => z (r2.nil_iff.mpr w)) _ _ h1 h2⟩
end
section
variable {X : Cx} {o e : Expr} {es : List Expr} {to : TE} {t : TA} {name : Str} {id : String} {r : V → List V → Hp → VK → Prop} {apos cpos : Pos}
/-- a plain tuple -/
def PlT (x : V) (H : Hp) : Prop := ∃ a ob xs, x = .ref a ∧ H a = some (.frz ob (.tup xs)) ∧ ob.cls = .type "tuple" ∧ ob.dict = none
def tBMT (r : V → List V → Hp → VK → Prop) (to : TE) (t : TA) : TE := fun σ H Q => to σ H fun x H1 => PlT x H1 ∧ t σ H1 fun vs H2 => r x vs H2 Q
theorem pe_bmT (slot : Slot "tuple" name id) (hty : typeOf (.builtin id) = pure (.type "method_descriptor")) (hm : MtM X id r) (ho : PE X o to) (ha : PA X (e :: es) t)
    (hbase : attributeBase o name X.env (eval o X.env) = eval o X.env := by rfl)
    (hfew : ((backTo cpos (starEach (e :: es) X.env)).all (fun x => !x.1) && (backToKw cpos (keywordEach [] X.env)).all (fun x => x.1.isSome)
      && decide ((e :: es).length + ([] : List Keyword).length + (if ([] : List Keyword).isEmpty then 0 else 1) < 30)) = true := by rfl)
    (hline : (apos.endLine == cpos.line) = true := by rfl) (hs : starEach (e :: es) X.env = (false, eval e X.env) :: starEach es X.env := by rfl) (hplain : (backTo cpos (starEach es X.env)).any (·.1) = false := by rfl) :
    PE X (.Call (.Attribute o name apos) (e :: es) [] cpos) (tBMT r to t) := by
  refine ⟨fun pins s σ H Q I h => ?_⟩
  refine wpAny_Call_method_late hbase hfew hline rfl (thn (ho.run pins s σ H _ I h) fun v s1 ⟨x, H1, I1, r1, ty, q1⟩ => ?_)
  obtain ⟨a, ob, xs, rfl, hH, hc, hd⟩ := ty
  obtain rfl : v = .ref a := r1
  obtain ⟨hg, _⟩ := (show ObjOk X.prog X.w H1 s1.heap a (.frz ob (.tup xs)) from I1.hok a _ hH)
  refine ⟨"tuple", id, PySem.F.plainAttrs_tuple, slot, hty, ⟨ob, hg, hc⟩, fun b e => ?_, ?_⟩
  · cases e
    exact ⟨ob, hg, hd⟩
  have hA := ha.run cpos pins s1 σ H1 _ I1 q1
  rw [hs] at hA ⊢
  refine Calls.callWith_builtin (by show (false || (backTo cpos (starEach es X.env)).any (·.1)) = false; rw [hplain] <;> rfl) (Calls.evalArgs_plain ?_)
  exact thn hA fun us s2 ⟨vs, H2, I2, r2, q2⟩ => hm pins s2 σ H2 (.ref a) vs (.ref a) us Q I2 (show L2.RelV (.ref a) (.ref a) from rfl) r2 q2
end
end DX

/-! A second layer over the hand layer: symbolic states (values, a store of objects) in place of slots and heaps. -/
namespace DL
open PySem PySem.Spec PyProof.Rows L2 DX

/-! ### immutable data in a heap -/
mutual
inductive Im (K : PySem.W.Frag) (H : Hp) : V → PyData → Prop
  | non : Im K H .non .none
  | bl (b : Bool) : Im K H (.bl b) (.bool b)
  | int (i : Int) : Im K H (.int i) (.int i)
  | str (x : Str) : Im K H (.str x) (.str x)
  | tup {a : Addr} {xs : List V} {ds : List PyData} : Rd H a (.tup xs) → ImAll K H xs ds → Im K H (.ref a) (.tuple ds)
inductive ImAll (K : PySem.W.Frag) (H : Hp) : List V → List PyData → Prop
  | nil : ImAll K H [] []
  | cons {v : V} {vs : List V} {d : PyData} {ds : List PyData} : Im K H v d → ImAll K H vs ds → ImAll K H (v :: vs) (d :: ds)
end
/-- every tuple is kept -/
def Tp (o : HO) : Prop := (∃ xs, o = .tup xs) ∨ ∃ b xs, o = .frz b (.tup xs)
def Tk (H H' : Hp) : Prop := ∀ a o, Tp o → H a = some o → H' a = some o
theorem Tk.t {H H' : Hp} (k : Tk H H') {a : Addr} {xs : List V} (h : H a = some (.tup xs)) : H' a = some (.tup xs) := k a _ (.inl ⟨xs, rfl⟩) h
theorem Tk.r {H H' : Hp} (k : Tk H H') {a : Addr} {xs : List V} (h : Rd H a (.tup xs)) : Rd H' a (.tup xs) := by
  rcases h with h | ⟨o, h⟩
  · exact .inl (k.t h)
  · exact .inr ⟨o, k a _ (.inr ⟨o, xs, rfl⟩) h⟩
theorem Tk.refl (H : Hp) : Tk H H := fun _ _ _ h => h
theorem Tk.trans {H H1 H2 : Hp} (a : Tk H H1) (b : Tk H1 H2) : Tk H H2 := fun c o t h => b c o t (a c o t h)
theorem Tk.new {H : Hp} {p : Addr} {o : HO} (h : H p = none) : Tk H (upd H p o) := fun a xs _ e => by
  rw [upd_ne (ne_of_none e h)]
  exact e
theorem Tk.mut {H : Hp} {p : Addr} {o u : HO} (h : H p = some u) (hu : ¬ Tp u) : Tk H (upd H p o) := fun a xs t e => by
  have n : a ≠ p := fun z => by
    rw [z, h] at e
    cases e
    exact hu t
  rw [upd_ne n]
  exact e
section
variable {K : PySem.W.Frag} {T : Tb} {H H' : Hp}
mutual
theorem Im.keep (k : Tk H H') : ∀ {v : V} {d : PyData}, Im K H v d → Im K H' v d
  | _, _, .non => .non
  | _, _, .bl b => .bl b
  | _, _, .int i => .int i
  | _, _, .str x => .str x
  | _, _, .tup h a => .tup (k.r h) (ImAll.keep k a)
theorem ImAll.keep (k : Tk H H') : ∀ {vs : List V} {ds : List PyData}, ImAll K H vs ds → ImAll K H' vs ds
  | _, _, .nil => .nil
  | _, _, .cons h a => .cons (Im.keep k h) (ImAll.keep k a)
end
mutual
theorem Im.dp : ∀ {v : V} {d : PyData}, Im K H v d → Dp K H v d
  | _, _, .non => .non
  | _, _, .bl b => .bl b
  | _, _, .int i => .int i
  | _, _, .str x => .str x
  | _, _, .tup h a => .tup (.inl h) (ImAll.dp a)
theorem ImAll.dp : ∀ {vs : List V} {ds : List PyData}, ImAll K H vs ds → DpAll K H vs ds
  | _, _, .nil => .nil
  | _, _, .cons h a => .cons (Im.dp h) (ImAll.dp a)
end
theorem ImAll.length : ∀ {vs : List V} {ds : List PyData}, ImAll K H vs ds → vs.length = ds.length
  | _, _, .nil => rfl
  | _, _, .cons _ a => congrArg (· + 1) (ImAll.length a)
theorem ImAll.get : ∀ {vs : List V} {ds : List PyData} {i : Nat} {d : PyData}, ImAll K H vs ds → ds[i]? = some d → ∃ v, vs[i]? = some v ∧ Im K H v d
  | _, _, _, _, .nil, e => by simp at e
  | _, _, 0, _, .cons h _, e => by simp at e; subst e; exact ⟨_, rfl, h⟩
  | _, _, i + 1, d, .cons _ a, e => by
    obtain ⟨v, h1, h2⟩ := ImAll.get (i := i) (d := d) a (by simpa using e)
    exact ⟨v, by simpa using h1, h2⟩
theorem ImAll.getR : ∀ {vs : List V} {ds : List PyData} {i : Nat} {v : V}, ImAll K H vs ds → vs[i]? = some v → ∃ d, ds[i]? = some d ∧ Im K H v d
  | _, _, _, _, .nil, e => by simp at e
  | _, _, 0, _, .cons h _, e => by simp at e; subst e; exact ⟨_, rfl, h⟩
  | _, _, i + 1, v, .cons _ a, e => by
    obtain ⟨d, h1, h2⟩ := ImAll.getR (i := i) (v := v) a (by simpa using e)
    exact ⟨d, by simpa using h1, h2⟩
theorem ImAll.append : ∀ {vs ws : List V} {ds es : List PyData}, ImAll K H vs ds → ImAll K H ws es → ImAll K H (vs ++ ws) (ds ++ es)
  | _, _, _, _, .nil, b => b
  | _, _, _, _, .cons h a, b => .cons h (ImAll.append a b)
theorem ImAll.take : ∀ {vs : List V} {ds : List PyData} (n : Nat), ImAll K H vs ds → ImAll K H (vs.take n) (ds.take n)
  | _, _, 0, _ => .nil
  | _, _, _ + 1, .nil => .nil
  | _, _, n + 1, .cons h a => .cons h (ImAll.take n a)
theorem ImAll.drop : ∀ {vs : List V} {ds : List PyData} (n : Nat), ImAll K H vs ds → ImAll K H (vs.drop n) (ds.drop n)
  | _, _, 0, a => a
  | _, _, _ + 1, .nil => .nil
  | _, _, n + 1, .cons _ a => ImAll.drop n a
theorem ImAll.ints : ∀ {vs : List V} {ns : List Int}, ImAll K H vs (ns.map PyData.int) → vs = ns.map V.int
  | _, [], h => by cases h; rfl
  | _, n :: ns, h => by
    cases h with
    | cons a b => cases a; rw [ImAll.ints b]; rfl
theorem ImAll.of_ints : ∀ (ns : List Int), ImAll K H (ns.map V.int) (ns.map PyData.int)
  | [] => .nil
  | n :: ns => .cons (.int n) (ImAll.of_ints ns)
end

/-! ### symbolic values, objects -/
inductive S where
  /-- immutable data -/
  | d (x : PyData)
  /-- the k-th object of the store -/
  | p (k : Nat)
  /-- this very value -/
  | v (u : V)
  /-- a tuple of such -/
  | t (xs : List S)
  /-- a tuple of data: plain (its methods can be called), or such as keys are -/
  | q (b : Bool) (ds : List PyData)
inductive MO where
  | lst (xs : List S)
  /-- a list that is read alone (the script) -/
  | rl (xs : List S)
  | dk (kvs : List (Key × S))
  | dt (kvs : List (List Key × S))
  /-- an instance -/
  | ins (C : Addr) (fs : List (Str × S))
  /-- an exception of the class at C, made with the text m, its own dict where s points -/
  | xo (C : Addr) (m : Str) (s : S)
  /-- one that was caught -/
  | xk (C : Addr) (s : S)
  /-- an exception's own dict -/
  | xd (fs : List (Str × S))
  /-- anything that is said otherwise -/
  | oth (φ : Hp → Addr → Prop)

/-- how a tuple is known -/
def Tq (H : Hp) (a : Addr) (vs : List V) : Bool → Prop
  | true => ∃ o, H a = some (.frz o (.tup vs)) ∧ o.cls = .type "tuple" ∧ o.dict = none
  | false => H a = some (.tup vs)
theorem Tq.rd {H : Hp} {a : Addr} {vs : List V} : ∀ {b : Bool}, Tq H a vs b → Rd H a (.tup vs)
  | true, ⟨o, h, _⟩ => .inr ⟨o, h⟩
  | false, h => .inl h
theorem Tq.keep {H H' : Hp} (k : Tk H H') {a : Addr} {vs : List V} : ∀ {b : Bool}, Tq H a vs b → Tq H' a vs b
  | true, ⟨o, h, r⟩ => ⟨o, k a _ (.inr ⟨o, vs, rfl⟩) h, r⟩
  | false, h => k.t (show H a = _ from h)
mutual
inductive SV (K : PySem.W.Frag) (H : Hp) (as : List Addr) : S → V → Prop
  | d {x : PyData} {v : V} : Im K H v x → SV K H as (.d x) v
  | p {k : Nat} {a : Addr} : as[k]? = some a → SV K H as (.p k) (.ref a)
  | v (u : V) : SV K H as (.v u) u
  | t {a : Addr} {vs : List V} {ss : List S} : Rd H a (.tup vs) → SVs K H as ss vs → SV K H as (.t ss) (.ref a)
  | q {b : Bool} {a : Addr} {vs : List V} {ds : List PyData} : Tq H a vs b → ImAll K H vs ds → SV K H as (.q b ds) (.ref a)
inductive SVs (K : PySem.W.Frag) (H : Hp) (as : List Addr) : List S → List V → Prop
  | nil : SVs K H as [] []
  | cons {s : S} {ss : List S} {v : V} {vs : List V} : SV K H as s v → SVs K H as ss vs → SVs K H as (s :: ss) (v :: vs)
end
section
variable {K : PySem.W.Frag} {T : Tb} {H : Hp} {as : List Addr}
theorem SVs.pr : ∀ {ss : List S} {vs : List V}, SVs K H as ss vs → Paired (SV K H as) ss vs
  | _, _, .nil => .nil
  | _, _, .cons h a => .cons h (SVs.pr a)
theorem SVs.of : ∀ {ss : List S} {vs : List V}, Paired (SV K H as) ss vs → SVs K H as ss vs
  | _, _, .nil => .nil
  | _, _, .cons h a => .cons h (SVs.of a)
end
def KSV {κ : Type} (K : PySem.W.Frag) (H : Hp) (as : List Addr) : List (κ × S) → List (κ × V) → Prop := Paired fun p q => p.1 = q.1 ∧ SV K H as p.2 q.2
def MOk (K : PySem.W.Frag) (H : Hp) (as : List Addr) (a : Addr) : MO → Prop
  | .lst xs => ∃ vs, H a = some (.lst vs) ∧ SVs K H as xs vs
  | .rl xs => ∃ vs, SqL K H a vs ∧ SVs K H as xs vs
  | .dk kvs => ∃ vs, H a = some (.dK vs) ∧ KSV K H as kvs vs
  | .dt kvs => ∃ vs, H a = some (.dT vs) ∧ KSV K H as kvs vs
  | .ins C fs => ∃ dx vs, H a = some (.ins C dx vs) ∧ KSV K H as fs vs
  | .xo C m s => ∃ d t, SV K H as s (.ref d) ∧ H a = some (exm a C t (some d)) ∧ H t = some (.tup [.str m])
  | .xk C s => ∃ d, SV K H as s (.ref d) ∧ H a = some (exk a C d)
  | .xd fs => ∃ vs, H a = some (exd a vs) ∧ KSV K H as fs vs
  | .oth φ => φ H a
end DL

namespace DL
open PySem PySem.Spec PyProof.Rows L2 DX

/-- tuples are kept, the store has grown at its end -/
structure Le (as : List Addr) (H : Hp) (as' : List Addr) (H' : Hp) : Prop where
  pre : as <+: as'
  tk : Tk H H'
theorem Le.refl (as : List Addr) (H : Hp) : Le as H as H := ⟨List.prefix_refl _, Tk.refl _⟩
theorem Le.trans {as as1 as2 : List Addr} {H H1 H2 : Hp} (a : Le as H as1 H1) (b : Le as1 H1 as2 H2) : Le as H as2 H2 := ⟨a.pre.trans b.pre, a.tk.trans b.tk⟩
theorem Le.h {as : List Addr} {H H' : Hp} (k : Tk H H') : Le as H as H' := ⟨List.prefix_refl _, k⟩
theorem pre_get {as as' : List Addr} (h : as <+: as') {k : Nat} {a : Addr} (e : as[k]? = some a) : as'[k]? = some a := by
  obtain ⟨t, rfl⟩ := h
  rw [List.getElem?_append_left (List.getElem?_eq_some_iff.mp e).1]
  exact e
theorem Paired.mapA {α β : Type} {F G : α → β → Prop} : ∀ {l₁ : List α} {l₂ : List β}, Paired F l₁ l₂ → (∀ a b, F a b → G a b) → Paired G l₁ l₂
  | _, _, .nil, _ => .nil
  | _, _, .cons r t, f => .cons (f _ _ r) (Paired.mapA t f)
theorem Paired.at {α β : Type} {F : α → β → Prop} : ∀ {l₁ : List α} {l₂ : List β} {i : Nat} {x : α}, Paired F l₁ l₂ → l₁[i]? = some x → ∃ y, l₂[i]? = some y ∧ F x y
  | _, _, _, _, .nil, e => by simp at e
  | _, _, 0, _, .cons h _, e => by simp at e; subst e; exact ⟨_, rfl, h⟩
  | _, _, i + 1, x, .cons _ a, e => by
    obtain ⟨v, h1, h2⟩ := Paired.at (i := i) (x := x) a (by simpa using e)
    exact ⟨v, by simpa using h1, h2⟩
theorem Paired.atR {α β : Type} {F : α → β → Prop} : ∀ {l₁ : List α} {l₂ : List β} {i : Nat} {y : β}, Paired F l₁ l₂ → l₂[i]? = some y → ∃ x, l₁[i]? = some x ∧ F x y
  | _, _, _, _, .nil, e => by simp at e
  | _, _, 0, _, .cons h _, e => by simp at e; subst e; exact ⟨_, rfl, h⟩
  | _, _, i + 1, x, .cons _ a, e => by
    obtain ⟨v, h1, h2⟩ := Paired.atR (i := i) (y := x) a (by simpa using e)
    exact ⟨v, by simpa using h1, h2⟩
theorem Paired.app {α β : Type} {F : α → β → Prop} : ∀ {l₁ l₃ : List α} {l₂ l₄ : List β}, Paired F l₁ l₂ → Paired F l₃ l₄ → Paired F (l₁ ++ l₃) (l₂ ++ l₄)
  | _, _, _, _, .nil, b => b
  | _, _, _, _, .cons h a, b => .cons h (Paired.app a b)
theorem Paired.set {α β : Type} {F : α → β → Prop} {x : α} {y : β} (r : F x y) : ∀ {l₁ : List α} {l₂ : List β} (i : Nat), Paired F l₁ l₂ → Paired F (l₁.set i x) (l₂.set i y)
  | _, _, _, .nil => .nil
  | _, _, 0, .cons _ t => .cons r t
  | _, _, i + 1, .cons q t => .cons q (Paired.set r i t)
theorem Paired.eraseIdx {α β : Type} {F : α → β → Prop} : ∀ {l₁ : List α} {l₂ : List β} (i : Nat), Paired F l₁ l₂ → Paired F (l₁.eraseIdx i) (l₂.eraseIdx i)
  | _, _, _, .nil => .nil
  | _, _, 0, .cons _ t => t
  | _, _, i + 1, .cons q t => .cons q (Paired.eraseIdx i t)
theorem Paired.take {α β : Type} {F : α → β → Prop} : ∀ {l₁ : List α} {l₂ : List β} (n : Nat), Paired F l₁ l₂ → Paired F (l₁.take n) (l₂.take n)
  | _, _, 0, _ => .nil
  | _, _, _ + 1, .nil => .nil
  | _, _, n + 1, .cons r t => .cons r (Paired.take n t)
theorem Paired.drop {α β : Type} {F : α → β → Prop} : ∀ {l₁ : List α} {l₂ : List β} (n : Nat), Paired F l₁ l₂ → Paired F (l₁.drop n) (l₂.drop n)
  | _, _, 0, r => r
  | _, _, _ + 1, .nil => .nil
  | _, _, n + 1, .cons _ t => Paired.drop n t
section
variable {K : PySem.W.Frag} {T : Tb} {H H' : Hp} {as as' : List Addr}
mutual
theorem SV.le (k : Le as H as' H') : ∀ {s : S} {v : V}, SV K H as s v → SV K H' as' s v
  | _, _, .d h => .d (Im.keep k.tk h)
  | _, _, .p h => .p (pre_get k.pre h)
  | _, _, .v u => .v u
  | _, _, .t h r => .t (k.tk.r h) (SVs.le k r)
  | _, _, .q h r => .q (h.keep k.tk) (ImAll.keep k.tk r)
theorem SVs.le (k : Le as H as' H') : ∀ {ss : List S} {vs : List V}, SVs K H as ss vs → SVs K H' as' ss vs
  | _, _, .nil => .nil
  | _, _, .cons h a => .cons (SV.le k h) (SVs.le k a)
end
theorem SVs.length {ss : List S} {vs : List V} (h : SVs K H as ss vs) : ss.length = vs.length := h.pr.length
theorem SVs.at {ss : List S} {vs : List V} {i : Nat} {s : S} (h : SVs K H as ss vs) (e : ss[i]? = some s) : ∃ v, vs[i]? = some v ∧ SV K H as s v := Paired.at h.pr e
theorem SVs.atR {ss : List S} {vs : List V} {i : Nat} {v : V} (h : SVs K H as ss vs) (e : vs[i]? = some v) : ∃ s, ss[i]? = some s ∧ SV K H as s v := Paired.atR h.pr e
theorem SVs.app {ss ts : List S} {vs ws : List V} (h : SVs K H as ss vs) (g : SVs K H as ts ws) : SVs K H as (ss ++ ts) (vs ++ ws) := .of (Paired.app h.pr g.pr)
theorem SVs.set {ss : List S} {vs : List V} {s : S} {v : V} (r : SV K H as s v) (i : Nat) (h : SVs K H as ss vs) : SVs K H as (ss.set i s) (vs.set i v) := .of (Paired.set r i h.pr)
theorem SVs.erase {ss : List S} {vs : List V} (i : Nat) (h : SVs K H as ss vs) : SVs K H as (ss.eraseIdx i) (vs.eraseIdx i) := .of (Paired.eraseIdx i h.pr)
theorem SVs.take {ss : List S} {vs : List V} (n : Nat) (h : SVs K H as ss vs) : SVs K H as (ss.take n) (vs.take n) := .of (Paired.take n h.pr)
theorem SVs.drop {ss : List S} {vs : List V} (n : Nat) (h : SVs K H as ss vs) : SVs K H as (ss.drop n) (vs.drop n) := .of (Paired.drop n h.pr)
theorem KSV.le {κ : Type} (k : Le as H as' H') {ss : List (κ × S)} {vs : List (κ × V)} (h : KSV K H as ss vs) : KSV K H' as' ss vs := Paired.mapA h fun _ _ q => ⟨q.1, SV.le k q.2⟩
/-- the data of a list of data -/
theorem SVs.data : ∀ {ds : List PyData} {vs : List V}, SVs K H as (ds.map S.d) vs → ImAll K H vs ds
  | [], _, h => by cases h; exact .nil
  | d :: ds, _, h => by
    cases h with
    | cons a b =>
      cases a with
      | d q => exact .cons q (SVs.data b)
theorem SVs.ofData : ∀ {ds : List PyData} {vs : List V}, ImAll K H vs ds → SVs K H as (ds.map S.d) vs
  | _, _, .nil => .nil
  | _, _, .cons h a => .cons (.d h) (SVs.ofData a)
/-- an object is what it was: its own place, the tuples, the own dict -/
theorem MOk.le {a : Addr} (k : Le as H as' H') (ha : H' a = H a) : ∀ {m : MO}, (∀ φ, m = .oth φ → φ H a → φ H' a) → MOk K H as a m → MOk K H' as' a m
  | .lst _, _, ⟨vs, h, r⟩ => ⟨vs, by rw [ha]; exact h, r.le k⟩
  | .rl _, _, ⟨vs, h, r⟩ => ⟨vs, by
      rcases h with h | h
      · exact .inl (by rcases h with h | ⟨o, h⟩; exact .inl (by rw [ha]; exact h); exact .inr ⟨o, by rw [ha]; exact h⟩)
      · exact .inr h, r.le k⟩
  | .dk _, _, ⟨vs, h, r⟩ => ⟨vs, by rw [ha]; exact h, r.le k⟩
  | .dt _, _, ⟨vs, h, r⟩ => ⟨vs, by rw [ha]; exact h, r.le k⟩
  | .ins _ _, _, ⟨dx, vs, h, r⟩ => ⟨dx, vs, by rw [ha]; exact h, r.le k⟩
  | .xo _ _ _, _, ⟨d, t, h1, h2, h3⟩ => ⟨d, t, h1.le k, by rw [ha]; exact h2, k.tk.t h3⟩
  | .xk _ _, _, ⟨d, h1, h2⟩ => ⟨d, h1.le k, by rw [ha]; exact h2⟩
  | .xd _, _, ⟨vs, h, r⟩ => ⟨vs, by rw [ha]; exact h, r.le k⟩
  | .oth φ, f, h => f φ rfl h
end
/-- an object told otherwise stands as long as all that was tracked stands -/
def Stands (φ : Hp → Addr → Prop) : Prop := ∀ H H' a, φ H a → H' a = H a → φ H' a
/-- the store's objects stand where they should; H0 at the entry, as0 the entry's objects -/
abbrev Tb := List (Addr × Str)
structure DenM (K : PySem.W.Frag) (T : Tb) (H0 : Hp) (as0 : List Addr) (M : List MO) (as : List Addr) (H : Hp) : Prop where
  nd : as.Nodup
  len : as.length = M.length
  new : ∃ l, as = as0 ++ l ∧ ∀ a ∈ l, H0 a = none
  le : Tk H0 H
  fr : ∀ a o, H0 a = some o → (∀ ps, o ≠ .tbl ps) → a ∉ as → H a = some o
  tb : ∀ a ps, H0 a = some (.tbl ps) → ∃ more, H a = some (.tbl (ps ++ more))
  tab : LamX.Tabs T H
  mem : ∀ (k : Nat) m a, M[k]? = some m → as[k]? = some a → MOk K H as a m
  there : ∀ a ∈ as, ∃ o, H a = some o ∧ Tr a o
  st : ∀ (k : Nat) φ, M[k]? = some (.oth φ) → Stands φ
structure Den (K : PySem.W.Frag) (T : Tb) (H0 : Hp) (as0 : List Addr) (Γ : List (Option S)) (M : List MO) (as : List Addr) (σ : L2.St) (H : Hp) : Prop where
  m : DenM K T H0 as0 M as H
  len : σ.length = Γ.length
  loc : ∀ (i : Nat) s, Γ[i]? = some (some s) → ∃ v, σ[i]? = some (some v) ∧ SV K H as s v
section
variable {K : PySem.W.Frag} {T : Tb} {H0 H H' : Hp} {as0 as as' : List Addr} {Γ : List (Option S)} {M M' : List MO} {σ : L2.St}
/-- the slots stay -/
theorem Den.next (D : Den K T H0 as0 Γ M as σ H) (k : Le as H as' H') (m : DenM K T H0 as0 M' as' H') : Den K T H0 as0 Γ M' as' σ H' :=
  ⟨m, D.len, fun i s e => let ⟨v, h1, h2⟩ := D.loc i s e; ⟨v, h1, h2.le k⟩⟩
theorem Den.set (D : Den K T H0 as0 Γ M as σ H) {i : Nat} {s : S} {v : V} (r : SV K H as s v) : Den K T H0 as0 (Γ.set i (some s)) M as (σ.set i (some v)) H := by
  refine ⟨D.m, by simpa using D.len, fun j t e => ?_⟩
  by_cases h : i = j
  · subst h
    have hl : i < Γ.length := by
      have q := (List.getElem?_eq_some_iff.mp e).1
      simpa using q
    rw [List.getElem?_set_self hl] at e
    cases e
    exact ⟨v, List.getElem?_set_self (by rw [D.len]; exact hl), r⟩
  · rw [List.getElem?_set_ne h] at e ⊢
    exact D.loc j t e
/-- what is new lies apart from the store -/
theorem DenM.notin (D : DenM K T H0 as0 M as H) {p : Addr} (h : H p = none) : p ∉ as := fun z => by
  obtain ⟨o, e, _⟩ := D.there p z
  rw [h] at e
  cases e
theorem DenM.h0 (D : DenM K T H0 as0 M as H) {p : Addr} (h : H p = none) : H0 p = none := by
  cases e : H0 p with
  | none => rfl
  | some o =>
    by_cases hz : ∃ ps, o = .tbl ps
    · obtain ⟨ps, rfl⟩ := hz
      obtain ⟨m, q⟩ := D.tb p ps e
      rw [h] at q
      cases q
    · have q := D.fr p o e (fun ps z => hz ⟨ps, z⟩) (D.notin h)
      rw [h] at q
      cases q
/-- a heap that has only grown -/
theorem DenM.grow (D : DenM K T H0 as0 M as H) (k : Same H H') : DenM K T H0 as0 M as H' where
  nd := D.nd
  len := D.len
  new := D.new
  le := D.le.trans fun a o _ e => k a o e
  fr := fun a o e n h => k a o (D.fr a o e n h)
  tb := fun a ps e => let ⟨m, q⟩ := D.tb a ps e; ⟨m, k a _ q⟩
  tab := D.tab.ext k
  mem := fun j m a e1 e2 => by
    have ha : H' a = H a := by
      obtain ⟨o, e, _⟩ := D.there a (List.mem_of_getElem? e2)
      rw [e, k a o e]
    exact MOk.le (.h fun a o _ e => k a o e) ha (fun φ e h => by subst e; exact D.st j φ e1 H H' a h ha) (D.mem j m a e1 e2)
  there := fun a h => let ⟨o, e, n⟩ := D.there a h; ⟨o, k a o e, n⟩
  st := D.st
theorem Same.tk {H H' : Hp} (k : Same H H') : Tk H H' := fun a _ _ e => k a _ e
theorem Same.new {H : Hp} {p : Addr} {o : HO} (h : H p = none) : Same H (upd H p o) := fun a u e => by
  rw [upd_ne (ne_of_none e h)]
  exact e
/-- a new object becomes one of the store -/
theorem DenM.push (D : DenM K T H0 as0 M as H) {p : Addr} {o : HO} {m : MO} (h : H p = none) (hn : Tr p o) (hm : MOk K (upd H p o) (as ++ [p]) p m) (hs : ∀ φ, m = .oth φ → Stands φ) : DenM K T H0 as0 (M ++ [m]) (as ++ [p]) (upd H p o) := by
  have G := D.grow (Same.new (o := o) h)
  have np := D.notin h
  refine ⟨?_, by simp [D.len], ?_, G.le, fun a u e n hx => G.fr a u e n fun z => hx (List.mem_append_left _ z), G.tb, G.tab, fun k m' a e1 e2 => ?_, fun a ha => ?_, fun k φ e => ?_⟩
  · rw [List.nodup_append]
    exact ⟨D.nd, by simp, fun a ha b hb => by
      simp at hb
      subst hb
      exact fun z => np (z ▸ ha)⟩
  · obtain ⟨l, e, hl⟩ := D.new
    refine ⟨l ++ [p], by rw [e, List.append_assoc], fun a ha => ?_⟩
    rcases List.mem_append.mp ha with z | z
    · exact hl a z
    · simp at z
      subst z
      exact D.h0 h
  · have kl : Le as (upd H p o) (as ++ [p]) (upd H p o) := ⟨List.prefix_append _ _, Tk.refl _⟩
    by_cases hk : k < M.length
    · rw [List.getElem?_append_left hk] at e1
      rw [List.getElem?_append_left (by rw [D.len]; exact hk)] at e2
      exact MOk.le kl rfl (fun φ _ z => z) (G.mem k m' a e1 e2)
    · have ek : k = M.length := by
        have q := (List.getElem?_eq_some_iff.mp e1).1
        simp at q
        omega
      subst ek
      rw [List.getElem?_append_right (Nat.le_refl _)] at e1
      rw [← D.len, List.getElem?_append_right (Nat.le_refl _)] at e2
      simp at e1 e2
      subst e1 e2
      exact hm
  · rcases List.mem_append.mp ha with z | z
    · exact G.there a z
    · simp at z
      subst z
      exact ⟨o, upd_same, hn⟩
  · by_cases hk : k < M.length
    · rw [List.getElem?_append_left hk] at e
      exact D.st k φ e
    · have ek : k = M.length := by
        have q := (List.getElem?_eq_some_iff.mp e).1
        simp at q
        omega
      subst ek
      rw [List.getElem?_append_right (Nat.le_refl _)] at e
      simp at e
      exact hs φ e
/-- an object of the store is written -/
theorem DenM.write (D : DenM K T H0 as0 M as H) {k : Nat} {a : Addr} {o u : HO} {m : MO} (hk : k < M.length) (ea : as[k]? = some a) (h : H a = some u) (hn : Tr a o) (hm : MOk K (upd H a o) as a m) (hs : ∀ φ, m = .oth φ → Stands φ) :
    DenM K T H0 as0 (M.set k m) as (upd H a o) := by
  have ha : a ∈ as := List.mem_of_getElem? ea
  have t : Tk H (upd H a o) := fun b xs tp e => by
    have n : b ≠ a := fun z => by
      obtain ⟨o', e', n'⟩ := D.there a ha
      rw [z, e'] at e
      cases e
      rcases tp with ⟨ys, tp⟩ | ⟨ob, ys, tp⟩
      · exact n'.tup ys tp
      · exact n'.fz ob ys tp
    rw [upd_ne n]
    exact e
  obtain ⟨oa, ea', na'⟩ := D.there a ha
  refine ⟨D.nd, by simp [D.len], D.new, D.le.trans t, fun b o' e nt hb => ?_, fun b ps e => ?_, ?_, fun j m' b e1 e2 => ?_, fun b hb => ?_, fun j φ e => ?_⟩
  · rw [upd_ne fun z => hb (by rw [z]; exact ha)]
    exact D.fr b o' e nt hb
  · obtain ⟨m, q⟩ := D.tb b ps e
    have n : b ≠ a := fun z => by
      rw [z, ea'] at q
      exact na'.tbl _ (Option.some.inj q)
    exact ⟨m, by rw [upd_ne n]; exact q⟩
  · intro p hp
    obtain ⟨ps, t1, t2, t3⟩ := D.tab p hp
    have n : p.1 ≠ a := fun z => by
      rw [z, ea'] at t1
      exact na'.tbl _ (Option.some.inj t1)
    refine ⟨ps, by rw [upd_ne n]; exact t1, t2, fun pos cv hc => ?_⟩
    obtain ⟨c, e1, e2⟩ := t3 pos cv hc
    have n2 : c ≠ a := fun z => by
      rw [z, ea'] at e2
      exact na'.cod _ (Option.some.inj e2)
    exact ⟨c, e1, by rw [upd_ne n2]; exact e2⟩
  · by_cases hj : k = j
    · subst hj
      rw [List.getElem?_set_self hk] at e1
      cases e1
      rw [ea] at e2
      cases e2
      exact hm
    · rw [List.getElem?_set_ne hj] at e1
      have nb : b ≠ a := fun z => by
        subst z
        obtain ⟨h1, q1⟩ := List.getElem?_eq_some_iff.mp ea
        obtain ⟨h2, q2⟩ := List.getElem?_eq_some_iff.mp e2
        exact hj ((List.getElem_inj D.nd).mp (q1.trans q2.symm))
      exact MOk.le (.h t) (upd_ne nb) (fun φ e z => by subst e; exact D.st j φ e1 H _ b z (upd_ne nb)) (D.mem j m' b e1 e2)
  · by_cases hba : b = a
    · subst hba
      exact ⟨o, upd_same, hn⟩
    · rw [upd_ne hba]
      exact D.there b hb
  · by_cases hj : k = j
    · subst hj
      rw [List.getElem?_set_self hk] at e
      cases e
      exact hs φ rfl
    · rw [List.getElem?_set_ne hj] at e
      exact D.st j φ e
/-- the last objects are forgotten -/
theorem DenM.take (D : DenM K T H0 as0 M as H) {n : Nat} (h0 : as0.length ≤ n) (hm : ∀ (k : Nat) m a, k < n → M[k]? = some m → as[k]? = some a → MOk K H as a m → MOk K H (as.take n) a m) : DenM K T H0 as0 (M.take n) (as.take n) H := by
  obtain ⟨l, e, hl⟩ := D.new
  refine ⟨D.nd.sublist (List.take_sublist _ _), by simp [D.len], ⟨l.take (n - as0.length), ?_, fun a ha => hl a (List.mem_of_mem_take ha)⟩, D.le, fun a o h1 n h2 => ?_, D.tb, D.tab, fun k m a e1 e2 => ?_, fun a ha => D.there a (List.mem_of_mem_take ha), fun k φ e1 => ?_⟩
  · rw [e, List.take_append]
    congr 1
    exact List.take_of_length_le h0
  · refine D.fr a o h1 n fun z => ?_
    rw [e] at z h2
    rcases List.mem_append.mp z with z | z
    · refine h2 ?_
      rw [List.take_append, List.take_of_length_le h0]
      exact List.mem_append_left _ z
    · rw [hl a z] at h1
      cases h1
  · rw [List.getElem?_take] at e1 e2
    split at e1
    · rename_i hk
      rw [if_pos hk] at e2
      exact hm k m a hk e1 e2 (D.mem k m a e1 e2)
    · cases e1
  · rw [List.getElem?_take] at e1
    split at e1
    · exact D.st k φ e1
    · cases e1
end
end DL

namespace DL
open PySem PySem.Spec PyProof.Rows L2 DX

/-! ### contexts -/
/-- what is fixed of a body's context -/
structure Cs where
  P : Program
  w : World
  K : PySem.W.Frag
  /-- tables of code objects, the names of the lambdas -/
  T : Tb
  mg : Str → Option Value
  base : Heap
  N : List Str
  sc : Scope
  k : Nat
  own : Str → Bool
  /-- what is fixed of the entry: its heap, its objects -/
  ent : Hp → List Addr → Prop := fun _ _ => True
  /-- .. of the very context -/
  px : Cx → Hp → Prop := fun _ _ => True
structure OkX (c : Cs) (X : Cx) : Prop where
  P : X.prog = c.P
  w : X.w = c.w
  K : X.K = c.K
  mg : X.mg = c.mg
  base : X.base = c.base
  N : X.N = c.N
  sc : X.env.scope = c.sc
  calm : X.calm = true
  room : Room c.k X.A
  gd : X.A.guards = some []
  nd : c.N.Nodup
  kind : c.sc.kind = .function
  own : PassesOwn (model X.prog X.w) X.A X.env X.xe
  fn : ∀ x, c.own x = true → X.fn x = true

structure OkE (c : Cs) (X : Cx) (H0 : Hp) (as0 : List Addr) : Prop extends OkX c X where
  ent : c.ent H0 as0
  px : c.px X H0
instance {c : Cs} {X : Cx} {H0 : Hp} {as0 : List Addr} : CoeOut (OkE c X H0 as0) (OkX c X) := ⟨OkE.toOkX⟩
def tE (X : Cx) (e : Expr) : TE := fun σ H Q => ∀ pins s, Inv X pins σ H s → wpAny (model X.prog X.w) X.A (eval e X.env) (EP X pins σ Q) X.xe s
def tT (X : Cx) (e : Expr) : TT := fun σ H Q => ∀ pins s, Inv X pins σ H s → wpAny (model X.prog X.w) X.A (isTrue e X.env (eval e X.env)) (TP X pins σ Q) X.xe s
def tW (X : Cx) (e : Expr) : TT := fun σ H Q => ∀ whole pins s, Inv X pins σ H s → wpAny (model X.prog X.w) X.A (isTrue e X.env whole) (TP X pins σ Q) X.xe s
def tA (X : Cx) (es : List Expr) : TA := fun σ H Q => ∀ pos pins s, Inv X pins σ H s → wpAny (model X.prog X.w) X.A (spliced (backTo pos (starEach es X.env))) (AP X pins σ Q) X.xe s
def tS (X : Cx) (st : Stmt) : TS := fun D σ H => ∀ pins s, Inv X pins σ H s → wpAny (model X.prog X.w) X.A (exec st X.env) (SP X pins D) X.xe s
def tB (X : Cx) (st : List Stmt) : TS := fun D σ H => ∀ pins s, Inv X pins σ H s → wpAny (model X.prog X.w) X.A (execs st X.env) (SP X pins D) X.xe s
theorem pE (X : Cx) (e : Expr) : PE X e (tE X e) := ⟨fun pins s σ H Q I h => h pins s I⟩
theorem pT (X : Cx) (e : Expr) : PT X e (tT X e) := ⟨fun pins s σ H Q I h => h pins s I⟩
theorem pW (X : Cx) (e : Expr) : PW X e (tW X e) := ⟨fun wh pins s σ H Q I h => h wh pins s I⟩
theorem pA (X : Cx) (e : List Expr) : PA X e (tA X e) := ⟨fun pos pins s σ H Q I h => h pos pins s I⟩
theorem pS (X : Cx) (e : Stmt) : PS X e (tS X e) := ⟨fun pins s σ H Q I h => h pins s I⟩
theorem pB (X : Cx) (e : List Stmt) : PSs X e (tB X e) := ⟨fun pins s σ H Q I h => h pins s I⟩
theorem tE_of {X : Cx} {e : Expr} {t : TE} (h : PE X e t) {σ H Q} (q : t σ H Q) : tE X e σ H Q := fun pins s I => h.run pins s σ H Q I q
theorem tT_of {X : Cx} {e : Expr} {t : TT} (h : PT X e t) {σ H Q} (q : t σ H Q) : tT X e σ H Q := fun pins s I => h.run pins s σ H Q I q
theorem tW_of {X : Cx} {e : Expr} {t : TT} (h : PW X e t) {σ H Q} (q : t σ H Q) : tW X e σ H Q := fun wh pins s I => h.run wh pins s σ H Q I q
theorem tA_of {X : Cx} {e : List Expr} {t : TA} (h : PA X e t) {σ H Q} (q : t σ H Q) : tA X e σ H Q := fun pos pins s I => h.run pos pins s σ H Q I q
theorem tS_of {X : Cx} {e : Stmt} {t : TS} (h : PS X e t) {σ H D} (q : t D σ H) : tS X e D σ H := fun pins s I => h.run pins s σ H D I q
theorem tB_of {X : Cx} {e : List Stmt} {t : TS} (h : PSs X e t) {σ H D} (q : t D σ H) : tB X e D σ H := fun pins s I => h.run pins s σ H D I q

abbrev Gm := List (Option S)
abbrev Sto := List MO
/-! ### judgements: from a symbolic state an expression gives r and leaves the store M' -/
structure EX (c : Cs) (Γ : Gm) (M : Sto) (e : Expr) (r : S) (M' : Sto) : Prop where
  run : ∀ X H0 as0, OkE c X H0 as0 → ∀ as σ H Q, Den c.K c.T H0 as0 Γ M as σ H → (∀ v as' H', Le as H as' H' → DenM c.K c.T H0 as0 M' as' H' → SV c.K H' as' r v → Q v H') → tE X e σ H Q
structure ET (c : Cs) (Γ : Gm) (M : Sto) (e : Expr) (b : Bool) (M' : Sto) : Prop where
  run : ∀ X H0 as0, OkE c X H0 as0 → ∀ as σ H Q, Den c.K c.T H0 as0 Γ M as σ H → (∀ as' H', Le as H as' H' → DenM c.K c.T H0 as0 M' as' H' → Q b H') → tT X e σ H Q
structure EW (c : Cs) (Γ : Gm) (M : Sto) (e : Expr) (b : Bool) (M' : Sto) : Prop where
  run : ∀ X H0 as0, OkE c X H0 as0 → ∀ as σ H Q, Den c.K c.T H0 as0 Γ M as σ H → (∀ as' H', Le as H as' H' → DenM c.K c.T H0 as0 M' as' H' → Q b H') → tW X e σ H Q
structure EA (c : Cs) (Γ : Gm) (M : Sto) (es : List Expr) (rs : List S) (M' : Sto) : Prop where
  run : ∀ X H0 as0, OkE c X H0 as0 → ∀ as σ H Q, Den c.K c.T H0 as0 Γ M as σ H → (∀ vs as' H', Le as H as' H' → DenM c.K c.T H0 as0 M' as' H' → SVs c.K H' as' rs vs → Q vs H') → tA X es σ H Q
/-- an operation on two values -/
structure OS (c : Cs) (f : Value → Value → Sem Value) (x y : S) (M : Sto) (r : S) (M' : Sto) : Prop where
  run : ∀ X H0 as0, OkE c X H0 as0 → ∃ R : R2, OpR X f R ∧ ∀ as H u v (Q : VK), DenM c.K c.T H0 as0 M as H → SV c.K H as x u → SV c.K H as y v → (∀ z as' H', Le as H as' H' → DenM c.K c.T H0 as0 M' as' H' → SV c.K H' as' r z → Q z H') → R u v H Q
/-- a call of a value on arguments -/
structure CS (c : Cs) (f : Value) (xs : List S) (M : Sto) (r : S) (M' : Sto) : Prop where
  run : ∀ X H0 as0, OkE c X H0 as0 → ∃ R : List V → Hp → VK → Prop, CallR X f R ∧ ∀ as H vs (Q : VK), DenM c.K c.T H0 as0 M as H → SVs c.K H as xs vs → (∀ z as' H', Le as H as' H' → DenM c.K c.T H0 as0 M' as' H' → SV c.K H' as' r z → Q z H') → R vs H Q
/-- e raises an exception of the class at C, whose own dict is the k-th object -/
structure ER (c : Cs) (Γ : Gm) (M : Sto) (e : Expr) (C : Addr) (k : Nat) (M' : Sto) : Prop where
  run : ∀ X H0 as0, OkE c X H0 as0 → ∀ as σ H (W : WX), Takes X W → Den c.K c.T H0 as0 Γ M as σ H → (∀ as' H' d, Le as H as' H' → DenM c.K c.T H0 as0 M' as' H' → as'[k]? = some d → W (.ref C) (some d) σ H') → ∀ Q, tE X e σ H Q
/-- one of the arguments raises -/
structure EAR (c : Cs) (Γ : Gm) (M : Sto) (es : List Expr) (C : Addr) (k : Nat) (M' : Sto) : Prop where
  run : ∀ X H0 as0, OkE c X H0 as0 → ∀ as σ H (W : WX), Takes X W → Den c.K c.T H0 as0 Γ M as σ H → (∀ as' H' d, Le as H as' H' → DenM c.K c.T H0 as0 M' as' H' → as'[k]? = some d → W (.ref C) (some d) σ H') → ∀ Q, tA X es σ H Q
/-- what is wanted behind statements -/
structure Nd where
  nx : Gm → Sto → Prop
  rt : S → Sto → Prop
  bk : Gm → Sto → Prop := fun _ _ => False
  ct : Gm → Sto → Prop := fun _ _ => False
  /-- raised: its class, where its own dict stands -/
  xc : Gm → Addr → Nat → Sto → Prop := fun _ _ _ _ => False
/-- D wants no more than N gives -/
structure Fits (c : Cs) (X : Cx) (H0 : Hp) (as0 : List Addr) (as : List Addr) (H : Hp) (N : Nd) (D : Ends) : Prop where
  nx : ∀ Γ M as' σ H', N.nx Γ M → Le as H as' H' → Den c.K c.T H0 as0 Γ M as' σ H' → D.nx σ H'
  rt : ∀ r M as' v H', N.rt r M → Le as H as' H' → DenM c.K c.T H0 as0 M as' H' → SV c.K H' as' r v → D.rt v H'
  bk : ∀ Γ M as' σ H', N.bk Γ M → Le as H as' H' → Den c.K c.T H0 as0 Γ M as' σ H' → D.bk σ H'
  ct : ∀ Γ M as' σ H', N.ct Γ M → Le as H as' H' → Den c.K c.T H0 as0 Γ M as' σ H' → D.ct σ H'
  xc : ∃ W, Takes X W ∧ ∀ Γ C k M as' σ H' d, N.xc Γ C k M → Le as H as' H' → Den c.K c.T H0 as0 Γ M as' σ H' → as'[k]? = some d → W (.ref C) (some d) σ H'
structure SX (c : Cs) (Γ : Gm) (M : Sto) (st : Stmt) (N : Nd) : Prop where
  run : ∀ X H0 as0, OkE c X H0 as0 → ∀ as σ H D, Den c.K c.T H0 as0 Γ M as σ H → Fits c X H0 as0 as H N D → tS X st D σ H
structure BX (c : Cs) (Γ : Gm) (M : Sto) (st : List Stmt) (N : Nd) : Prop where
  run : ∀ X H0 as0, OkE c X H0 as0 → ∀ as σ H D, Den c.K c.T H0 as0 Γ M as σ H → Fits c X H0 as0 as H N D → tB X st D σ H

section
variable {c : Cs} {Γ : Gm} {M M1 M2 M3 : Sto} {e a b : Expr} {r x y z : S} {pos : Pos}
theorem OkX.nd' {X : Cx} (o : OkX c X) : X.N.Nodup := by rw [o.N]; exact o.nd
theorem vis_ok {X : Cx} (o : OkX c X) {x : Str} (h : Vis c.sc x) : Vis X.env.scope x := by rw [o.sc]; exact h
theorem gl_ok {X : Cx} (o : OkX c X) {x : Str} (h : c.sc.names.lookup x = some .globalImplicit) : Gl X x := by
  unfold Gl Env.kindOf
  rw [o.sc]
  exact h
theorem kin_ok {X : Cx} (o : OkX c X) : X.K = c.K := o.K
theorem fn_ok {X : Cx} (o : OkX c X) {x : Str} (h : c.own x = true ∨ c.sc.names.lookup x = some .local) : X.fn x = true ∨ X.env.scope.names.lookup x = some .local := by
  rcases h with h | h
  · exact .inl (o.fn x h)
  · exact .inr (by rw [o.sc]; exact h)

/-! ### names, constants -/
theorem ex_var (i : Nat) {x : Str} {s : S} (hN : c.N[i]? = some x := by rfl) (hΓ : Γ[i]? = some (some s) := by rfl) (hv : Vis c.sc x := by first | exact Or.inl rfl | exact Or.inr (Or.inl rfl) | exact Or.inr (Or.inr rfl))
    (hd : (x == ("__debug__" : Str)) = false := by decide) (hcd : (x == ("__classdict__" : Str)) = false := by decide) : EX c Γ M (.Name x pos) s M := by
  constructor
  intro X H0 as0 o as σ H Q D k
  refine tE_of (pe_var (i := i) (by rw [o.N]; exact hN) (vis_ok o hv) hd hcd) ?_
  obtain ⟨v, h1, h2⟩ := D.loc i s hΓ
  exact ⟨v, h1, k v as H (Le.refl _ _) D.m h2⟩
theorem ex_const {e : Expr} {v : V} {s : S} (hp : ∀ X, OkX c X → PE X e (tC v)) (hs : ∀ H as, SV c.K H as s v) : EX c Γ M e s M := by
  constructor
  intro X H0 as0 o as σ H Q D k
  exact tE_of (hp X o) (k v as H (Le.refl _ _) D.m (hs H as))
theorem ex_int {i : Int} {j : Nat} : EX c Γ M (.Constant (.int i) j pos) (.d (.int i)) M := ex_const (fun _ _ => pe_int) fun _ _ => .d (.int i)
theorem ex_bool {i : Bool} {j : Nat} : EX c Γ M (.Constant (.bool i) j pos) (.d (.bool i)) M := ex_const (fun _ _ => pe_bl) fun _ _ => .d (.bl i)
theorem ex_none {j : Nat} : EX c Γ M (.Constant .none j pos) (.d .none) M := ex_const (fun _ _ => pe_non) fun _ _ => .d .non
theorem ex_str {i : Str} {j : Nat} : EX c Γ M (.Constant (.str i) j pos) (.d (.str i)) M := ex_const (fun _ _ => pe_str) fun _ _ => .d (.str i)
theorem ex_glob {x : Str} {v : V} {u : Value} {s : S} (hg : c.sc.names.lookup x = some .globalImplicit) (hm : c.mg x = some u) (r : RelV v u) (hs : ∀ H as, SV c.K H as s v) (hd : (x == ("__debug__" : Str)) = false := by decide) : EX c Γ M (.Name x pos) s M :=
  ex_const (fun X o => pe_glob (gl_ok o hg) (by rw [o.mg]; exact hm) r hd) hs
theorem ex_blt {x : Str} {v : V} {u : Value} (hg : c.sc.names.lookup x = some .globalImplicit) (hm : c.mg x = none) (hb : bootBuiltins x = some u) (r : RelV v u) (hn : x ≠ "__name__" := by decide) (hd : (x == ("__debug__" : Str)) = false := by decide) : EX c Γ M (.Name x pos) (.v v) M :=
  ex_const (fun X o => pe_bltn (gl_ok o hg) (by rw [o.mg]; exact hm) hb r hn hd) fun _ _ => .v v

/-! ### operations -/
theorem ex_bin {op : Operator} (ha : EX c Γ M a x M1) (hb : EX c Γ M1 b y M2) (ho : OS c (binaryOp op) x y M2 z M3) : EX c Γ M (.BinOp a op b pos) z M3 := by
  constructor
  intro X H0 as0 o as σ H Q D k
  obtain ⟨R, hR, hq⟩ := ho.run X H0 as0 o
  refine tE_of (pe_op hR (pE X a) (pE X b)) ?_
  refine ha.run X H0 as0 o as σ H _ D fun u as1 H1 l1 D1 s1 => ?_
  refine hb.run X H0 as0 o as1 σ H1 _ (D.next l1 D1) fun v as2 H2 l2 D2 s2 => ?_
  exact hq as2 H2 u v Q D2 (s1.le l2) s2 fun w as3 H3 l3 D3 s3 => k w as3 H3 ((l1.trans l2).trans l3) D3 s3
theorem ex_cmp {op : CmpOp} (ha : EX c Γ M a x M1) (hb : EX c Γ M1 b y M2) (ho : OS c (compareOp op) x y M2 z M3) (hm : behindInMarks op b = false := by first | exact nomark _ | with_unfolding_all rfl) : EX c Γ M (.Compare a [op] [b] pos) z M3 := by
  constructor
  intro X H0 as0 o as σ H Q D k
  obtain ⟨R, hR, hq⟩ := ho.run X H0 as0 o
  refine tE_of (pe_cmpR hR (pE X a) (pE X b) hm) ?_
  refine ha.run X H0 as0 o as σ H _ D fun u as1 H1 l1 D1 s1 => ?_
  refine hb.run X H0 as0 o as1 σ H1 _ (D.next l1 D1) fun v as2 H2 l2 D2 s2 => ?_
  exact hq as2 H2 u v Q D2 (s1.le l2) s2 fun w as3 H3 l3 D3 s3 => k w as3 H3 ((l1.trans l2).trans l3) D3 s3
theorem sv_bool {K : PySem.W.Frag} {H : Hp} {as : List Addr} {q : Bool} {v : V} (h : SV K H as (.d (.bool q)) v) : v = .bl q := by
  cases h with
  | d h => cases h; rfl
theorem sv_int {K : PySem.W.Frag} {H : Hp} {as : List Addr} {q : Int} {v : V} (h : SV K H as (.d (.int q)) v) : v = .int q := by
  cases h with
  | d h => cases h; rfl
theorem sv_str {K : PySem.W.Frag} {H : Hp} {as : List Addr} {q : Str} {v : V} (h : SV K H as (.d (.str q)) v) : v = .str q := by
  cases h with
  | d h => cases h; rfl
theorem sv_none {K : PySem.W.Frag} {H : Hp} {as : List Addr} {v : V} (h : SV K H as (.d .none) v) : v = .non := by
  cases h with
  | d h => cases h; rfl
theorem sv_v {K : PySem.W.Frag} {H : Hp} {as : List Addr} {u v : V} (h : SV K H as (.v u) v) : v = u := by
  cases h with
  | v => rfl
/-- a op1 b op2 c, whose third part leaves the store as it is -/
theorem ex_chain {op op' : CmpOp} {d : Expr} {q1 q2 : Bool} (ha : EX c Γ M a x M1) (hb : EX c Γ M1 b y M2) (ho : OS c (compareOp op) x y M2 (.d (.bool q1)) M2) (hd : q1 = true → EX c Γ M2 d z M2) (ho' : q1 = true → OS c (compareOp op') y z M2 (.d (.bool q2)) M2)
    (hm : lastMarks [op, op'] [b, d] = false := by with_unfolding_all rfl) : EX c Γ M (.Compare a [op, op'] [b, d] pos) (.d (.bool (q1 && q2))) M2 := by
  constructor
  intro X H0 as0 o as σ H Q D k
  obtain ⟨R, hR, hq⟩ := ho.run X H0 as0 o
  cases q1 with
  | false =>
    refine tE_of (pe_chain hR (r' := fun _ _ _ _ => False) (fun _ _ _ _ _ _ _ _ _ _ _ _ h => h.elim) (pE X a) (pE X b) (pE X d) hm) ?_
    refine ha.run X H0 as0 o as σ H _ D fun u as1 H1 l1 D1 s1 => ?_
    refine hb.run X H0 as0 o as1 σ H1 _ (D.next l1 D1) fun v as2 H2 l2 D2 s2 => ?_
    refine hq as2 H2 u v _ D2 (s1.le l2) s2 fun w as3 H3 l3 D3 s3 => ⟨false, sv_bool s3, ?_⟩
    rw [if_neg Bool.false_ne_true]
    exact k _ as3 H3 ((l1.trans l2).trans l3) D3 (.d (.bl _))
  | true =>
    obtain ⟨R', hR', hq'⟩ := (ho' rfl).run X H0 as0 o
    refine tE_of (pe_chain hR hR' (pE X a) (pE X b) (pE X d) hm) ?_
    refine ha.run X H0 as0 o as σ H _ D fun u as1 H1 l1 D1 s1 => ?_
    refine hb.run X H0 as0 o as1 σ H1 _ (D.next l1 D1) fun v as2 H2 l2 D2 s2 => ?_
    refine hq as2 H2 u v _ D2 (s1.le l2) s2 fun w as3 H3 l3 D3 s3 => ⟨true, sv_bool s3, ?_⟩
    rw [if_pos rfl]
    refine (hd rfl).run X H0 as0 o as3 σ H3 _ (D.next ((l1.trans l2).trans l3) D3) fun w2 as4 H4 l4 D4 s4 => ?_
    exact hq' as4 H4 v w2 Q D4 (s2.le (l3.trans l4)) s4 fun w as5 H5 l5 D5 s5 => k w as5 H5 ((((l1.trans l2).trans l3).trans l4).trans l5) D5 s5

/-! ### arguments, displays -/
theorem ea_nil : EA c Γ M [] [] M := by
  constructor
  intro X H0 as0 o as σ H Q D k
  exact tA_of pa_nil (k [] as H (Le.refl _ _) D.m .nil)
theorem ea_cons {es : List Expr} {rs : List S} (ha : EX c Γ M e x M1) (hr : EA c Γ M1 es rs M2) (hs : ∀ env, starEach (e :: es) env = (false, eval e env) :: starEach es env := by intro _; rfl) : EA c Γ M (e :: es) (x :: rs) M2 := by
  constructor
  intro X H0 as0 o as σ H Q D k
  refine tA_of (pa_cons (pE X e) (pA X es) (hs _)) ?_
  refine ha.run X H0 as0 o as σ H _ D fun u as1 H1 l1 D1 s1 => ?_
  exact hr.run X H0 as0 o as1 σ H1 _ (D.next l1 D1) fun us as2 H2 l2 D2 s2 => k _ as2 H2 (l1.trans l2) D2 (.cons (s1.le l2) s2)
/-- a tuple of such: data where all are data -/
def allD : List S → Option (List PyData)
  | [] => some []
  | .d x :: r => (allD r).map (x :: ·)
  | .q _ ds :: r => (allD r).map (.tuple ds :: ·)
  | _ :: _ => none
def mkT (xs : List S) : S := match allD xs with
  | some ds => .d (.tuple ds)
  | none => .t xs
theorem allD_some {K : PySem.W.Frag} {H : Hp} {as : List Addr} : ∀ {xs : List S} {ds : List PyData} {vs : List V}, allD xs = some ds → SVs K H as xs vs → ImAll K H vs ds
  | [], ds, _, e, h => by
    cases h
    cases e
    exact .nil
  | .d x :: r, ds, _, e, h => by
    unfold allD at e
    obtain ⟨l, e1, rfl⟩ := Option.map_eq_some_iff.mp e
    cases h with
    | cons a b =>
      cases a with
      | d q => exact .cons q (allD_some e1 b)
  | .q b qs :: r, ds, _, e, h => by
    unfold allD at e
    obtain ⟨l, e1, rfl⟩ := Option.map_eq_some_iff.mp e
    cases h with
    | cons a b =>
      cases a with
      | q q f => exact .cons (.tup q.rd f) (allD_some e1 b)
  | .p _ :: _, _, _, e, _ => by cases e
  | .v _ :: _, _, _, e, _ => by cases e
  | .t _ :: _, _, _, e, _ => by cases e
theorem mkT_sv {K : PySem.W.Frag} {H : Hp} {as : List Addr} {xs : List S} {vs : List V} {p : Addr} (h : SVs K H as xs vs) (e : Rd H p (.tup vs)) : SV K H as (mkT xs) (.ref p) := by
  unfold mkT
  cases q : allD xs with
  | none => exact .t e h
  | some ds => exact .d (.tup e (allD_some q h))
theorem ex_tup {es : List Expr} {rs : List S} {k0} (h : EA c Γ M es rs M1) (hl : rs.length ≤ 1000) : EX c Γ M (.Tuple es k0 pos) (mkT rs) M1 := by
  constructor
  intro X H0 as0 o as σ H Q D k
  refine tE_of (pe_tup (pA X es)) ?_
  refine h.run X H0 as0 o as σ H _ D fun us as1 H1 l1 D1 s1 => ⟨?_, fun p hp => ?_⟩
  · rw [← s1.length]
    exact Nat.le_trans hl (by decide)
  · have k1 : Same H1 (upd H1 p (.tup us)) := Same.new hp
    exact k _ as1 _ ⟨l1.pre, l1.tk.trans (Same.tk k1)⟩ (D1.grow k1) (mkT_sv (s1.le (.h (Same.tk k1))) (.inl upd_same))
theorem ex_list {es : List Expr} {rs : List S} (h : EA c Γ M es rs M1) (hl : rs.length ≤ 1000) : EX c Γ M (.List es pos) (.p M1.length) (M1 ++ [.lst rs]) := by
  constructor
  intro X H0 as0 o as σ H Q D k
  refine tE_of (pe_lst (pA X es)) ?_
  refine h.run X H0 as0 o as σ H _ D fun us as1 H1 l1 D1 s1 => ⟨?_, fun p hp => ?_⟩
  · rw [← s1.length]
    exact Nat.le_trans hl (by decide)
  · have k1 : Same H1 (upd H1 p (.lst us)) := Same.new hp
    have l2 : Le as1 H1 (as1 ++ [p]) (upd H1 p (.lst us)) := ⟨List.prefix_append _ _, Same.tk k1⟩
    refine k _ _ _ (l1.trans l2) (D1.push hp .lst ⟨us, upd_same, s1.le l2⟩ (fun _ z => by cases z)) (.p ?_)
    rw [← D1.len, List.getElem?_append_right (Nat.le_refl _)]
    simp
end
end DL

namespace DL
open PySem PySem.Spec PyProof.Rows L2

/-! ### renumbering -/
mutual
inductive Ren (ρ : Nat → Option Nat) : S → S → Prop
  | d (x : PyData) : Ren ρ (.d x) (.d x)
  | v (u : V) : Ren ρ (.v u) (.v u)
  | p {k j : Nat} : ρ k = some j → Ren ρ (.p k) (.p j)
  | t {xs ys : List S} : Rens ρ xs ys → Ren ρ (.t xs) (.t ys)
  | q (b : Bool) (ds : List PyData) : Ren ρ (.q b ds) (.q b ds)
inductive Rens (ρ : Nat → Option Nat) : List S → List S → Prop
  | nil : Rens ρ [] []
  | cons {x y : S} {xs ys : List S} : Ren ρ x y → Rens ρ xs ys → Rens ρ (x :: xs) (y :: ys)
end
inductive RenM (ρ : Nat → Option Nat) : MO → MO → Prop
  | lst {xs ys : List S} : Rens ρ xs ys → RenM ρ (.lst xs) (.lst ys)
  | rl {xs ys : List S} : Rens ρ xs ys → RenM ρ (.rl xs) (.rl ys)
  | dk {xs ys : List (Key × S)} : Paired (fun p q => p.1 = q.1 ∧ Ren ρ p.2 q.2) xs ys → RenM ρ (.dk xs) (.dk ys)
  | dt {xs ys : List (List Key × S)} : Paired (fun p q => p.1 = q.1 ∧ Ren ρ p.2 q.2) xs ys → RenM ρ (.dt xs) (.dt ys)
  | ins {C : Addr} {xs ys : List (Str × S)} : Paired (fun p q => p.1 = q.1 ∧ Ren ρ p.2 q.2) xs ys → RenM ρ (.ins C xs) (.ins C ys)
  | xo {C : Addr} {m : Str} {x y : S} : Ren ρ x y → RenM ρ (.xo C m x) (.xo C m y)
  | xk {C : Addr} {x y : S} : Ren ρ x y → RenM ρ (.xk C x) (.xk C y)
  | xd {xs ys : List (Str × S)} : Paired (fun p q => p.1 = q.1 ∧ Ren ρ p.2 q.2) xs ys → RenM ρ (.xd xs) (.xd ys)
  | oth (φ : Hp → Addr → Prop) : RenM ρ (.oth φ) (.oth φ)
theorem Rens.data (ρ : Nat → Option Nat) : ∀ ds : List PyData, Rens ρ (ds.map S.d) (ds.map S.d)
  | [] => .nil
  | d :: ds => .cons (.d d) (Rens.data ρ ds)
theorem Rens.app {ρ : Nat → Option Nat} : ∀ {xs ys zs ws : List S}, Rens ρ xs ys → Rens ρ zs ws → Rens ρ (xs ++ zs) (ys ++ ws)
  | _, _, _, _, .nil, b => b
  | _, _, _, _, .cons h a, b => .cons h (Rens.app a b)
def RnOk (ρ : Nat → Option Nat) (as as' : List Addr) : Prop := ∀ k j, ρ k = some j → ∀ a, as[k]? = some a → as'[j]? = some a
section
variable {K : PySem.W.Frag} {T : Tb} {H : Hp} {as as' : List Addr} {ρ : Nat → Option Nat}
mutual
theorem SV.ren (h : RnOk ρ as as') : ∀ {x y : S} {v : V}, Ren ρ x y → SV K H as x v → SV K H as' y v
  | _, _, _, .d _, .d q => .d q
  | _, _, _, .v _, .v _ => .v _
  | _, _, _, .p e, .p q => .p (h _ _ e _ q)
  | _, _, _, .t e, .t g q => .t g (SVs.ren h e q)
  | _, _, _, .q _ _, .q g q => .q g q
theorem SVs.ren (h : RnOk ρ as as') : ∀ {x y : List S} {v : List V}, Rens ρ x y → SVs K H as x v → SVs K H as' y v
  | _, _, _, .nil, .nil => .nil
  | _, _, _, .cons e f, .cons q r => .cons (SV.ren h e q) (SVs.ren h f r)
end
theorem KSV.ren {κ : Type} (h : RnOk ρ as as') : ∀ {xs ys : List (κ × S)} {vs : List (κ × V)}, Paired (fun p q => p.1 = q.1 ∧ Ren ρ p.2 q.2) xs ys → KSV K H as xs vs → KSV K H as' ys vs
  | _, _, _, .nil, .nil => .nil
  | _, _, _, .cons e f, .cons q r => .cons ⟨e.1.symm.trans q.1, SV.ren h e.2 q.2⟩ (KSV.ren h f r)
theorem MOk.ren (h : RnOk ρ as as') {a : Addr} {m m' : MO} (r : RenM ρ m m') (q : MOk K H as a m) : MOk K H as' a m' := by
  cases r with
  | lst e => obtain ⟨vs, h1, h2⟩ := q; exact ⟨vs, h1, h2.ren h e⟩
  | rl e => obtain ⟨vs, h1, h2⟩ := q; exact ⟨vs, h1, h2.ren h e⟩
  | dk e => obtain ⟨vs, h1, h2⟩ := q; exact ⟨vs, h1, KSV.ren h e h2⟩
  | dt e => obtain ⟨vs, h1, h2⟩ := q; exact ⟨vs, h1, KSV.ren h e h2⟩
  | ins e => obtain ⟨dx, vs, h1, h2⟩ := q; exact ⟨dx, vs, h1, KSV.ren h e h2⟩
  | xo e => obtain ⟨d, t, h1, h2⟩ := q; exact ⟨d, t, h1.ren h e, h2⟩
  | xk e => obtain ⟨d, h1, h2⟩ := q; exact ⟨d, h1.ren h e, h2⟩
  | xd e => obtain ⟨vs, h1, h2⟩ := q; exact ⟨vs, h1, KSV.ren h e h2⟩
  | oth φ => exact q
theorem RenM.oth_of {m : MO} {φ : Hp → Addr → Prop} (r : RenM ρ m (.oth φ)) : m = .oth φ := by
  cases r
  rfl
end

/-! ### keeping some of the objects: the first n, then those at js -/
def keepR (n : Nat) (js : List Nat) : Nat → Option Nat := fun k => if k < n then some k else (js.idxOf? k).map (n + ·)
def pick (as : List Addr) (n : Nat) (js : List Nat) : List Addr := as.take n ++ js.map fun j => as.getD j 0
/-- (r, M) told as (r', M'): the first n objects and those at js -/
structure Keep (n : Nat) (js : List Nat) (M M' : Sto) : Prop where
  len : M'.length = n + js.length
  nd : js.Nodup
  lo : ∀ j ∈ js, n ≤ j ∧ j < M.length
  hn : n ≤ M.length
  fst : ∀ k m, k < n → M[k]? = some m → ∃ m', M'[k]? = some m' ∧ RenM (keepR n js) m m'
  snd : ∀ (i j : Nat) m, js[i]? = some j → M[j]? = some m → ∃ m', M'[n + i]? = some m' ∧ RenM (keepR n js) m m'
theorem idxOf_nodup {js : List Nat} (nd : js.Nodup) {i j : Nat} (h : js[i]? = some j) : js.idxOf? j = some i := by
  induction js generalizing i with
  | nil => simp at h
  | cons x xs ih =>
    cases i with
    | zero =>
      simp at h
      subst h
      simp [List.idxOf?_cons]
    | succ i =>
      have h' : xs[i]? = some j := by simpa using h
      have hx : x ≠ j := fun z => by
        subst z
        exact (List.nodup_cons.mp nd).1 (List.mem_of_getElem? h')
      rw [List.idxOf?_cons]
      simp [hx, ih (List.nodup_cons.mp nd).2 h']
theorem idxOf_get {js : List Nat} {i j : Nat} (h : js.idxOf? j = some i) : js[i]? = some j := by
  induction js generalizing i with
  | nil => simp at h
  | cons x xs ih =>
    rw [List.idxOf?_cons] at h
    split at h
    · rename_i hx
      simp at hx
      cases h
      simp [hx]
    · cases e : xs.idxOf? j with
      | none => rw [e] at h; cases h
      | some i' =>
        rw [e] at h
        cases h
        simpa using ih e
section
variable {K : PySem.W.Frag} {T : Tb} {H0 H : Hp} {as0 as : List Addr} {M M' : Sto} {n : Nat} {js : List Nat}
theorem pick_ok (hl : as.length = M.length) (k : Keep n js M M') : RnOk (keepR n js) as (pick as n js) := by
  intro i j e a ha
  unfold keepR at e
  unfold pick
  split at e
  · rename_i h
    cases e
    rw [List.getElem?_append_left (by rw [List.length_take]; have := (List.getElem?_eq_some_iff.mp ha).1; omega), List.getElem?_take, if_pos h]
    exact ha
  · cases q : js.idxOf? i with
    | none => rw [q] at e; cases e
    | some t =>
      rw [q] at e
      have e' : n + t = j := Option.some.inj e
      subst e'
      have hn := k.hn
      rw [List.getElem?_append_right (by rw [List.length_take]; omega), List.length_take, Nat.min_eq_left (by omega), Nat.add_sub_cancel_left, List.getElem?_map, idxOf_get q]
      simp [List.getD, ha]
theorem DenM.keep (D : DenM K T H0 as0 M as H) (h0 : as0.length ≤ n) (k : Keep n js M M') : DenM K T H0 as0 M' (pick as n js) H := by
  have hl := D.len
  have hn := k.hn
  have R := pick_ok hl k
  have hlt : (as.take n).length = n := by rw [List.length_take]; omega
  obtain ⟨l, e, hl0⟩ := D.new
  have tk : as.take n = as0 ++ l.take (n - as0.length) := by
    rw [e, List.take_append, List.take_of_length_le h0]
  have js_at : ∀ j ∈ js, as[j]? = some (as.getD j 0) ∧ as.getD j 0 ∈ l := fun j hj => by
    have q := k.lo j hj
    have hj' : j < as.length := by omega
    have e1 : as[j]? = some (as.getD j 0) := by simp [List.getD, List.getElem?_eq_getElem hj']
    refine ⟨e1, ?_⟩
    generalize as.getD j 0 = x at e1
    rw [e, List.getElem?_append_right (by omega)] at e1
    exact List.mem_of_getElem? e1
  have sub : ∀ a ∈ pick as n js, a ∈ as := fun a ha => by
    rcases List.mem_append.mp ha with z | z
    · exact List.mem_of_mem_take z
    · obtain ⟨j, hj, rfl⟩ := List.mem_map.mp z
      exact List.mem_of_getElem? (js_at j hj).1
  refine ⟨?_, by unfold pick; rw [List.length_append, hlt, List.length_map, k.len], ⟨l.take (n - as0.length) ++ js.map fun j => as.getD j 0, by unfold pick; rw [tk, List.append_assoc], fun a ha => ?_⟩, D.le, fun a o h1 n' h2 => ?_, D.tb, D.tab, fun i m a e1 e2 => ?_, fun a ha => D.there a (sub a ha), fun i φ e1 => ?_⟩
  · unfold pick
    rw [List.nodup_append]
    refine ⟨D.nd.sublist (List.take_sublist _ _), ?_, fun a ha b hb => ?_⟩
    · have nd := k.nd
      have lo := k.lo
      clear R sub k
      induction js with
      | nil => simp
      | cons j js ih =>
        rw [List.map_cons, List.nodup_cons]
        refine ⟨fun z => ?_, ih (fun i hi => js_at i (List.mem_cons_of_mem _ hi)) (List.nodup_cons.mp nd).2 fun i hi => lo i (List.mem_cons_of_mem _ hi)⟩
        obtain ⟨i, hi, ei⟩ := List.mem_map.mp z
        have q1 := (js_at j List.mem_cons_self).1
        have q2 := (js_at i (List.mem_cons_of_mem _ hi)).1
        rw [ei] at q2
        obtain ⟨h1, q1⟩ := List.getElem?_eq_some_iff.mp q1
        obtain ⟨h2, q2⟩ := List.getElem?_eq_some_iff.mp q2
        have := (List.getElem_inj D.nd).mp (q1.trans q2.symm)
        subst this
        exact (List.nodup_cons.mp nd).1 hi
    · rintro rfl
      obtain ⟨j, hj, ej⟩ := List.mem_map.mp hb
      have q1 := (js_at j hj).1
      rw [ej] at q1
      obtain ⟨i, hi, q2⟩ := List.mem_iff_getElem.mp ha
      have hi' : i < n := by rw [hlt] at hi; exact hi
      rw [List.getElem_take] at q2
      obtain ⟨h1, q1⟩ := List.getElem?_eq_some_iff.mp q1
      have := (List.getElem_inj D.nd).mp (q1.trans q2.symm)
      have := (k.lo j hj).1
      omega
  · rcases List.mem_append.mp ha with z | z
    · exact hl0 a (List.mem_of_mem_take z)
    · obtain ⟨j, hj, rfl⟩ := List.mem_map.mp z
      exact hl0 _ (js_at j hj).2
  · refine D.fr a o h1 n' fun z => ?_
    rw [e] at z
    rcases List.mem_append.mp z with z | z
    · refine h2 ?_
      unfold pick
      rw [tk, List.append_assoc]
      exact List.mem_append_left _ z
    · rw [hl0 a z] at h1
      cases h1
  · by_cases hi : i < n
    · have hiM : i < M.length := by omega
      obtain ⟨m', e3, r⟩ := k.fst i M[i] hi (List.getElem?_eq_getElem hiM)
      rw [e1] at e3
      cases e3
      unfold pick at e2
      rw [List.getElem?_append_left (by omega), List.getElem?_take, if_pos hi] at e2
      exact (D.mem i _ a (List.getElem?_eq_getElem hiM) e2).ren R r
    · have q := (List.getElem?_eq_some_iff.mp e1).1
      rw [k.len] at q
      have hj : i - n < js.length := by omega
      have e4 : js[i - n]? = some js[i - n] := List.getElem?_eq_getElem hj
      have hlo := k.lo js[i - n] (List.getElem_mem hj)
      obtain ⟨m', e3, r⟩ := k.snd (i - n) _ M[js[i - n]] e4 (List.getElem?_eq_getElem hlo.2)
      rw [show n + (i - n) = i by omega, e1] at e3
      cases e3
      unfold pick at e2
      rw [List.getElem?_append_right (by omega), hlt, List.getElem?_map, e4] at e2
      cases e2
      exact (D.mem _ _ _ (List.getElem?_eq_getElem hlo.2) (js_at _ (List.getElem_mem hj)).1).ren R r
  · by_cases hi : i < n
    · have hiM : i < M.length := by omega
      obtain ⟨m', e3, r⟩ := k.fst i M[i] hi (List.getElem?_eq_getElem hiM)
      rw [e1] at e3
      cases e3
      exact D.st i φ (by rw [List.getElem?_eq_getElem hiM, r.oth_of])
    · have q := (List.getElem?_eq_some_iff.mp e1).1
      rw [k.len] at q
      have hj : i - n < js.length := by omega
      have e4 : js[i - n]? = some js[i - n] := List.getElem?_eq_getElem hj
      have hlo := k.lo js[i - n] (List.getElem_mem hj)
      obtain ⟨m', e3, r⟩ := k.snd (i - n) _ M[js[i - n]] e4 (List.getElem?_eq_getElem hlo.2)
      rw [show n + (i - n) = i by omega, e1] at e3
      cases e3
      exact D.st _ φ (by rw [List.getElem?_eq_getElem hlo.2, r.oth_of])
end
/-- the state (Γ, M) may be told as (Γ', M'): n objects are the entry's at most -/
structure Wk (n : Nat) (js : List Nat) (Γ : Gm) (M : Sto) (Γ' : Gm) (M' : Sto) : Prop where
  k : Keep n js M M'
  len : Γ'.length = Γ.length
  g : ∀ (i : Nat) s', Γ'[i]? = some (some s') → ∃ s, Γ[i]? = some (some s) ∧ Ren (keepR n js) s s'
theorem Den.weak {K : PySem.W.Frag} {T : Tb} {H0 H : Hp} {as0 as : List Addr} {σ : L2.St} {Γ Γ' : Gm} {M M' : Sto} {n : Nat} {js : List Nat} (D : Den K T H0 as0 Γ M as σ H) (h0 : as0.length ≤ n) (w : Wk n js Γ M Γ' M') : Den K T H0 as0 Γ' M' (pick as n js) σ H := by
  refine ⟨D.m.keep h0 w.k, D.len.trans w.len.symm, fun i s' e => ?_⟩
  obtain ⟨s, e1, r⟩ := w.g i s' e
  obtain ⟨v, h1, h2⟩ := D.loc i s e1
  exact ⟨v, h1, h2.ren (pick_ok D.m.len w.k) r⟩
end DL

namespace DL
open PySem PySem.Spec PyProof.Rows L2

section
variable {c : Cs} {Γ Γ' Γ1 : Gm} {M M' M1 M2 M3 : Sto} {e a b : Expr} {r x y z : S} {pos : Pos} {q q1 q2 : Bool} {N : Nd} {st : Stmt} {rest : List Stmt}

/-! ### tests -/
/-- an expression that gives a bool (a name, a call, a constant ..) -/
theorem et_val (h : EX c Γ M e (.d (.bool q)) M1) (he : ∀ env whole, isTrue e env whole = (do let v ← whole; standAt e.pos; holding [v] (truthy v)) := by intro _ _; rfl) : ET c Γ M e q M1 := by
  constructor
  intro X H0 as0 o as σ H Q D k
  refine tT_of (pt_val (pE X e) (he _)) ?_
  exact h.run X H0 as0 o as σ H _ D fun v as1 H1 l1 D1 s1 => ⟨q, sv_bool s1, k as1 H1 l1 D1⟩
theorem et_cmp {op : CmpOp} (ha : EX c Γ M a x M1) (hb : EX c Γ M1 b y M2) (ho : OS c (compareOp op) x y M2 (.d (.bool q)) M3) (hm : behindInMarks op b = false := by first | exact nomark _ | with_unfolding_all rfl) : ET c Γ M (.Compare a [op] [b] pos) q M3 := by
  constructor
  intro X H0 as0 o as σ H Q D k
  obtain ⟨R, hR, hq⟩ := ho.run X H0 as0 o
  refine tT_of (pt_cmpR hR (pE X a) (pE X b) hm) ?_
  refine ha.run X H0 as0 o as σ H _ D fun u as1 H1 l1 D1 s1 => ?_
  refine hb.run X H0 as0 o as1 σ H1 _ (D.next l1 D1) fun v as2 H2 l2 D2 s2 => ?_
  exact hq as2 H2 u v _ D2 (s1.le l2) s2 fun w as3 H3 l3 D3 s3 => ⟨q, sv_bool s3, k as3 H3 ((l1.trans l2).trans l3) D3⟩
theorem et_chain {op op' : CmpOp} {d : Expr} (ha : EX c Γ M a x M1) (hb : EX c Γ M1 b y M2) (ho : OS c (compareOp op) x y M2 (.d (.bool q1)) M2) (hd : q1 = true → EX c Γ M2 d z M2) (ho' : q1 = true → OS c (compareOp op') y z M2 (.d (.bool q2)) M2)
    (hm : lastMarks [op, op'] [b, d] = false := by with_unfolding_all rfl) : ET c Γ M (.Compare a [op, op'] [b, d] pos) (q1 && q2) M2 := by
  constructor
  intro X H0 as0 o as σ H Q D k
  obtain ⟨R, hR, hq⟩ := ho.run X H0 as0 o
  cases q1 with
  | false =>
    refine tT_of (pt_chain hR (r' := fun _ _ _ _ => False) (fun _ _ _ _ _ _ _ _ _ _ _ _ h => h.elim) (pE X a) (pE X b) (pE X d) hm) ?_
    refine ha.run X H0 as0 o as σ H _ D fun u as1 H1 l1 D1 s1 => ?_
    refine hb.run X H0 as0 o as1 σ H1 _ (D.next l1 D1) fun v as2 H2 l2 D2 s2 => ?_
    refine hq as2 H2 u v _ D2 (s1.le l2) s2 fun w as3 H3 l3 D3 s3 => ⟨false, sv_bool s3, ?_⟩
    rw [if_neg Bool.false_ne_true]
    exact ⟨false, rfl, k as3 H3 ((l1.trans l2).trans l3) D3⟩
  | true =>
    obtain ⟨R', hR', hq'⟩ := (ho' rfl).run X H0 as0 o
    refine tT_of (pt_chain hR hR' (pE X a) (pE X b) (pE X d) hm) ?_
    refine ha.run X H0 as0 o as σ H _ D fun u as1 H1 l1 D1 s1 => ?_
    refine hb.run X H0 as0 o as1 σ H1 _ (D.next l1 D1) fun v as2 H2 l2 D2 s2 => ?_
    refine hq as2 H2 u v _ D2 (s1.le l2) s2 fun w as3 H3 l3 D3 s3 => ⟨true, sv_bool s3, ?_⟩
    rw [if_pos rfl]
    refine (hd rfl).run X H0 as0 o as3 σ H3 _ (D.next ((l1.trans l2).trans l3) D3) fun w2 as4 H4 l4 D4 s4 => ?_
    exact hq' as4 H4 v w2 _ D4 (s2.le (l3.trans l4)) s4 fun w as5 H5 l5 D5 s5 => ⟨q2, sv_bool s5, k as5 H5 ((((l1.trans l2).trans l3).trans l4).trans l5) D5⟩
theorem et_not (h : ET c Γ M e q M1) : ET c Γ M (.UnaryOp .Not e pos) (!q) M1 := by
  constructor
  intro X H0 as0 o as σ H Q D k
  refine tT_of (pt_not (pT X e)) ?_
  exact h.run X H0 as0 o as σ H _ D k
theorem et_w (h : EW c Γ M e q M1) : ET c Γ M e q M1 := by
  constructor
  intro X H0 as0 o as σ H Q D k
  exact tT_of (pW X e).pt (h.run X H0 as0 o as σ H Q D k)
theorem ew_and1 (h : ET c Γ M a q M1) : EW c Γ M (.BoolOp .And [a] pos) q M1 := by
  constructor
  intro X H0 as0 o as σ H Q D k
  exact tW_of (pw_and1 (pT X a)) (h.run X H0 as0 o as σ H Q D k)
theorem ew_or1 (h : ET c Γ M a q M1) : EW c Γ M (.BoolOp .Or [a] pos) q M1 := by
  constructor
  intro X H0 as0 o as σ H Q D k
  exact tW_of (pw_or1 (pT X a)) (h.run X H0 as0 o as σ H Q D k)
/-- the parts leave the store as the first one does -/
theorem ew_and {es : List Expr} (ha : ET c Γ M a q1 M1) (hb : q1 = true → EW c Γ M1 (.BoolOp .And (b :: es) pos) q2 M1) : EW c Γ M (.BoolOp .And (a :: b :: es) pos) (q1 && q2) M1 := by
  constructor
  intro X H0 as0 o as σ H Q D k
  refine tW_of (pw_and (pT X a) (pW X _)) ?_
  refine ha.run X H0 as0 o as σ H _ D fun as1 H1 l1 D1 => ?_
  cases q1 with
  | false =>
    rw [if_neg Bool.false_ne_true]
    exact k as1 H1 l1 D1
  | true =>
    rw [if_pos rfl]
    exact (hb rfl).run X H0 as0 o as1 σ H1 Q (D.next l1 D1) fun as2 H2 l2 D2 => k as2 H2 (l1.trans l2) D2
theorem ew_or {es : List Expr} (ha : ET c Γ M a q1 M1) (hb : q1 = false → EW c Γ M1 (.BoolOp .Or (b :: es) pos) q2 M1) : EW c Γ M (.BoolOp .Or (a :: b :: es) pos) (q1 || q2) M1 := by
  constructor
  intro X H0 as0 o as σ H Q D k
  refine tW_of (pw_or (pT X a) (pW X _)) ?_
  refine ha.run X H0 as0 o as σ H _ D fun as1 H1 l1 D1 => ?_
  cases q1 with
  | true =>
    rw [if_pos rfl]
    exact k as1 H1 l1 D1
  | false =>
    rw [if_neg Bool.false_ne_true]
    exact (hb rfl).run X H0 as0 o as1 σ H1 Q (D.next l1 D1) fun as2 H2 l2 D2 => k as2 H2 (l1.trans l2) D2
/-! ### and, or, not, if .. else as values -/
theorem ex_not (h : EX c Γ M e (.d (.bool q)) M1) : EX c Γ M (.UnaryOp .Not e pos) (.d (.bool (!q))) M1 := by
  constructor
  intro X H0 as0 o as σ H Q D k
  refine tE_of (pe_not (pE X e)) ?_
  exact h.run X H0 as0 o as σ H _ D fun v as1 H1 l1 D1 s1 => ⟨q, sv_bool s1, k _ as1 H1 l1 D1 (.d (.bl _))⟩
theorem ex_one {op} (h : EX c Γ M e r M1) : EX c Γ M (.BoolOp op [e] pos) r M1 := by
  constructor
  intro X H0 as0 o as σ H Q D k
  exact tE_of (pe_one (pE X e)) (h.run X H0 as0 o as σ H Q D k)
theorem ex_and {es : List Expr} (ha : EX c Γ M a (.d (.bool q1)) M1) (hb : q1 = true → EX c Γ M1 (.BoolOp .And (b :: es) pos) (.d (.bool q2)) M1) : EX c Γ M (.BoolOp .And (a :: b :: es) pos) (.d (.bool (q1 && q2))) M1 := by
  constructor
  intro X H0 as0 o as σ H Q D k
  refine tE_of (pe_and (pE X a) (pE X _)) ?_
  refine ha.run X H0 as0 o as σ H _ D fun v as1 H1 l1 D1 s1 => ⟨q1, sv_bool s1, ?_⟩
  cases q1 with
  | false =>
    rw [if_neg Bool.false_ne_true]
    exact k _ as1 H1 l1 D1 (.d (.bl _))
  | true =>
    rw [if_pos rfl]
    exact (hb rfl).run X H0 as0 o as1 σ H1 Q (D.next l1 D1) fun v as2 H2 l2 D2 => k v as2 H2 (l1.trans l2) D2
theorem ex_or {es : List Expr} (ha : EX c Γ M a (.d (.bool q1)) M1) (hb : q1 = false → EX c Γ M1 (.BoolOp .Or (b :: es) pos) (.d (.bool q2)) M1) : EX c Γ M (.BoolOp .Or (a :: b :: es) pos) (.d (.bool (q1 || q2))) M1 := by
  constructor
  intro X H0 as0 o as σ H Q D k
  refine tE_of (pe_or (pE X a) (pE X _)) ?_
  refine ha.run X H0 as0 o as σ H _ D fun v as1 H1 l1 D1 s1 => ⟨q1, sv_bool s1, ?_⟩
  cases q1 with
  | true =>
    rw [if_pos rfl]
    exact k _ as1 H1 l1 D1 (.d (.bl _))
  | false =>
    rw [if_neg Bool.false_ne_true]
    exact (hb rfl).run X H0 as0 o as1 σ H1 Q (D.next l1 D1) fun v as2 H2 l2 D2 => k v as2 H2 (l1.trans l2) D2
theorem ex_if {t : Expr} (ht : ET c Γ M t q M1) (ha : q = true → EX c Γ M1 a r M2) (hb : q = false → EX c Γ M1 b r M2) : EX c Γ M (.IfExp t a b pos) r M2 := by
  constructor
  intro X H0 as0 o as σ H Q D k
  refine tE_of (pe_ifExp (pT X t) (pE X a) (pE X b)) ?_
  refine ht.run X H0 as0 o as σ H _ D fun as1 H1 l1 D1 => ?_
  cases q with
  | true =>
    rw [if_pos rfl]
    exact (ha rfl).run X H0 as0 o as1 σ H1 Q (D.next l1 D1) fun v as2 H2 l2 D2 => k v as2 H2 (l1.trans l2) D2
  | false =>
    rw [if_neg Bool.false_ne_true]
    exact (hb rfl).run X H0 as0 o as1 σ H1 Q (D.next l1 D1) fun v as2 H2 l2 D2 => k v as2 H2 (l1.trans l2) D2

/-! ### statements -/
theorem Fits.le {X : Cx} {H0 : Hp} {as0 as as' : List Addr} {H H' : Hp} {D : Ends} (f : Fits c X H0 as0 as H N D) (k : Le as H as' H') : Fits c X H0 as0 as' H' N D :=
  ⟨fun Γ M as2 σ H2 h l d => f.nx Γ M as2 σ H2 h (k.trans l) d, fun r M as2 v H2 h l d s => f.rt r M as2 v H2 h (k.trans l) d s, fun Γ M as2 σ H2 h l d => f.bk Γ M as2 σ H2 h (k.trans l) d, fun Γ M as2 σ H2 h l d => f.ct Γ M as2 σ H2 h (k.trans l) d,
   let ⟨W, tk, h⟩ := f.xc; ⟨W, tk, fun Γ C j M as2 σ H2 d q l m => h Γ C j M as2 σ H2 d q (k.trans l) m⟩⟩
theorem bx_nil (h : N.nx Γ M) : BX c Γ M [] N := by
  constructor
  intro X H0 as0 o as σ H D d f
  exact tB_of pss_nil (f.nx Γ M as σ H h (Le.refl _ _) d)
theorem bx_cons (h : SX c Γ M st { N with nx := fun Γ1 M1 => BX c Γ1 M1 rest N }) : BX c Γ M (st :: rest) N := by
  constructor
  intro X H0 as0 o as σ H D d f
  refine tB_of (pss_cons (pS X st) (pB X rest)) ?_
  refine h.run X H0 as0 o as σ H _ d ⟨fun Γ1 M1 as1 σ1 H1 h1 l1 d1 => ?_, f.rt, f.bk, f.ct, f.xc⟩
  exact h1.run X H0 as0 o as1 σ1 H1 D d1 (f.le l1)
theorem bx_one (h : SX c Γ M st N) : BX c Γ M [st] N := by
  constructor
  intro X H0 as0 o as σ H D d f
  exact tB_of (pss_one (pS X st)) (h.run X H0 as0 o as σ H D d f)
theorem bx_wk {ss : List Stmt} {n : Nat} {js : List Nat} (hn : False) : BX c Γ M ss N := hn.elim
theorem sx_set (i : Nat) {v : Str} {pos' : Pos} (he : EX c Γ M e r M1) (hq : N.nx (Γ.set i (some r)) M1) (hi : c.N[i]? = some v := by rfl) (hx : Loc c.sc v := by first | exact Or.inl rfl | exact Or.inr rfl) (hf : c.own v = true ∨ c.sc.names.lookup v = some .local := by first | exact Or.inl rfl | exact Or.inr rfl)
    (hs : ∀ env, env.scope = c.sc → swapsWith e (some (.Name v pos')) pos.line env = pure false := by intro _ _; rfl) : SX c Γ M (.Assign [.Name v pos'] e pos) N := by
  constructor
  intro X H0 as0 o as σ H D d f
  refine tS_of (ps_set o.nd' (i := i) (by rw [o.N]; exact hi) (by rw [o.sc]; exact hx) (pE X e) (hs _ o.sc) (fn_ok o hf)) ?_
  exact he.run X H0 as0 o as σ H _ d fun v as1 H1 l1 D1 s1 => f.nx _ _ as1 _ H1 hq l1 ((d.next l1 D1).set s1)
theorem sx_expr (he : EX c Γ M e r M1) (hq : N.nx Γ M1) (hs : ∀ env, swapsWith e none pos.line env = pure false := by intro _; rfl) : SX c Γ M (.Expr e pos) N := by
  constructor
  intro X H0 as0 o as σ H D d f
  refine tS_of (ps_expr (pE X e) (hs _)) ?_
  exact he.run X H0 as0 o as σ H _ d fun v as1 H1 l1 D1 s1 => f.nx _ _ as1 _ H1 hq l1 (d.next l1 D1)
theorem sx_ret (he : EX c Γ M e r M1) (hq : N.rt r M1) : SX c Γ M (.Return (some e) pos) N := by
  constructor
  intro X H0 as0 o as σ H D d f
  refine tS_of (ps_ret (pE X e)) ?_
  exact he.run X H0 as0 o as σ H _ d fun v as1 H1 l1 D1 s1 => f.rt _ _ as1 _ H1 hq l1 D1 s1
theorem sx_retN (hq : N.rt (.d .none) M) : SX c Γ M (.Return none pos) N := by
  constructor
  intro X H0 as0 o as σ H D d f
  exact tS_of ps_retN (f.rt _ _ as _ H hq (Le.refl _ _) d.m (.d .non))
theorem sx_if {t : Expr} {s1 s2 : List Stmt} (ht : ET c Γ M t q M1) (h1 : q = true → BX c Γ M1 s1 N) (h2 : q = false → BX c Γ M1 s2 N) : SX c Γ M (.If t s1 s2 pos) N := by
  constructor
  intro X H0 as0 o as σ H D d f
  refine tS_of (ps_if (pT X t) (pB X s1) (pB X s2)) ?_
  refine ht.run X H0 as0 o as σ H _ d fun as1 H1 l1 D1 => ?_
  cases q with
  | true =>
    rw [if_pos rfl]
    exact (h1 rfl).run X H0 as0 o as1 σ H1 D (d.next l1 D1) (f.le l1)
  | false =>
    rw [if_neg Bool.false_ne_true]
    exact (h2 rfl).run X H0 as0 o as1 σ H1 D (d.next l1 D1) (f.le l1)
theorem sx_pass (h : N.nx Γ M) : SX c Γ M (.Pass pos) N := by
  constructor
  intro X H0 as0 o as σ H D d f
  exact tS_of ps_pass (f.nx Γ M as σ H h (Le.refl _ _) d)
theorem sx_break (h : N.bk Γ M) : SX c Γ M (.Break pos) N := by
  constructor
  intro X H0 as0 o as σ H D d f
  exact tS_of ps_break (f.bk Γ M as σ H h (Le.refl _ _) d)
theorem sx_continue (h : N.ct Γ M) : SX c Γ M (.Continue pos) N := by
  constructor
  intro X H0 as0 o as σ H D d f
  exact tS_of ps_continue (f.ct Γ M as σ H h (Le.refl _ _) d)
end

/-! ### targets -/
def tG (X : Cx) (tg : Expr) : TG := fun v σ H Q => ∀ pins s u, Inv X pins σ H s → RelV v u → wpAny (model X.prog X.w) X.A (assign tg X.env u) (fun _ s' => ∃ σ' H', Inv X pins σ' H' s' ∧ Q σ' H') X.xe s
theorem pG (X : Cx) (tg : Expr) : PG X tg (tG X tg) := ⟨fun pins s σ H v u Q I r h => h pins s u I r⟩
theorem tG_of {X : Cx} {e : Expr} {t : TG} (h : PG X e t) {v σ H Q} (q : t v σ H Q) : tG X e v σ H Q := fun pins s u I r => h.run pins s σ H v u Q I r q
def tGs (X : Cx) (tgs : List Expr) : TGs := fun vs σ H Q => ∀ pins s us, Inv X pins σ H s → Vals vs us → wpAny (model X.prog X.w) X.A (assignInOrder ((assignEach tgs X.env).map (·.2)) us) (fun _ s' => ∃ σ' H', Inv X pins σ' H' s' ∧ Q σ' H') X.xe s
theorem pGs (X : Cx) (tg : List Expr) : PGs X tg (tGs X tg) := ⟨fun pins s σ H v u Q I r h => h pins s u I r⟩
theorem tGs_of {X : Cx} {e : List Expr} {t : TGs} (h : PGs X e t) {v σ H Q} (q : t v σ H Q) : tGs X e v σ H Q := fun pins s u I r => h.run pins s σ H v u Q I r q
/-- a target takes s -/
structure GX (c : Cs) (Γ : Gm) (M : Sto) (tg : Expr) (s : S) (Γ' : Gm) (M' : Sto) : Prop where
  run : ∀ X H0 as0, OkE c X H0 as0 → ∀ as σ H v Q, Den c.K c.T H0 as0 Γ M as σ H → SV c.K H as s v → (∀ as' σ' H', Le as H as' H' → Den c.K c.T H0 as0 Γ' M' as' σ' H' → Q σ' H') → tG X tg v σ H Q
structure GXs (c : Cs) (Γ : Gm) (M : Sto) (tg : List Expr) (s : List S) (Γ' : Gm) (M' : Sto) : Prop where
  run : ∀ X H0 as0, OkE c X H0 as0 → ∀ as σ H v Q, Den c.K c.T H0 as0 Γ M as σ H → SVs c.K H as s v → (∀ as' σ' H', Le as H as' H' → Den c.K c.T H0 as0 Γ' M' as' σ' H' → Q σ' H') → tGs X tg v σ H Q
section
variable {c : Cs} {Γ Γ' Γ1 Γ2 : Gm} {M M' M1 M2 M3 : Sto} {e a b tg : Expr} {r x y z s : S} {pos : Pos} {N : Nd}
theorem gx_name (i : Nat) {v : Str} (hi : c.N[i]? = some v := by rfl) (hl : Loc c.sc v := by first | exact Or.inl rfl | exact Or.inr rfl) (hf : c.own v = true ∨ c.sc.names.lookup v = some .local := by first | exact Or.inl rfl | exact Or.inr rfl) : GX c Γ M (.Name v pos) s (Γ.set i (some s)) M := by
  constructor
  intro X H0 as0 o as σ H v Q D r k
  refine tG_of (pg_name (i := i) o.nd' (by rw [o.N]; exact hi) (by rw [o.sc]; exact hl) (fn_ok o hf)) ?_
  exact k as _ H (Le.refl _ _) (D.set r)
theorem gxs_nil : GXs c Γ M [] [] Γ M := by
  constructor
  intro X H0 as0 o as σ H v Q D r k
  cases r
  exact tGs_of pgs_nil ⟨rfl, k as σ H (Le.refl _ _) D⟩
theorem gxs_cons {tgs : List Expr} {ss : List S} (h1 : GX c Γ M tg s Γ1 M1) (h2 : GXs c Γ1 M1 tgs ss Γ2 M2) (hs : ∀ env, (assignEach (tg :: tgs) env).map (·.2) = assign tg env :: (assignEach tgs env).map (·.2) := by intro _; rfl) : GXs c Γ M (tg :: tgs) (s :: ss) Γ2 M2 := by
  constructor
  intro X H0 as0 o as σ H v Q D r k
  cases r with
  | cons a b =>
    refine tGs_of (pgs_cons (pG X tg) (pGs X tgs) (hs _)) ⟨_, _, rfl, ?_⟩
    refine h1.run X H0 as0 o as σ H _ _ D a fun as1 σ1 H1 l1 D1 => ?_
    exact h2.run X H0 as0 o as1 σ1 H1 _ _ D1 (b.le l1) fun as2 σ2 H2 l2 D2 => k as2 σ2 H2 (l1.trans l2) D2
/-- the items of a tuple -/
def Items : S → List S → Prop
  | .d (.tuple ds), ss => ss = ds.map S.d
  | .t xs, ss => ss = xs
  | .q _ ds, ss => ss = ds.map S.d
  | _, _ => False
theorem Items.sv {K : PySem.W.Frag} {H : Hp} {as : List Addr} {s : S} {ss : List S} {v : V} (h : Items s ss) (r : SV K H as s v) : ∃ a vs, v = .ref a ∧ Rd H a (.tup vs) ∧ SVs K H as ss vs := by
  cases r with
  | d q =>
    cases q with
    | tup e f =>
      have h' : ss = _ := h
      subst h'
      exact ⟨_, _, rfl, e, SVs.ofData f⟩
    | _ => exact h.elim
  | t e f =>
    have h' : ss = _ := h
    subst h'
    exact ⟨_, _, rfl, e, f⟩
  | q e f =>
    have h' : ss = _ := h
    subst h'
    exact ⟨_, _, rfl, e.rd, SVs.ofData f⟩
  | _ => exact h.elim
theorem gx_tup {es : List Expr} {k0 : Nat} {ss : List S} (hi : Items s ss) (h : GXs c Γ M es ss Γ1 M1) (hn : ∀ env, (assignEach es env).length = ss.length := by intro _; rfl) (hst : ∀ env, (assignEach es env).findIdx? (·.1) = none := by intro _; rfl) : GX c Γ M (.Tuple es k0 pos) s Γ1 M1 := by
  constructor
  intro X H0 as0 o as σ H v Q D r k
  obtain ⟨a, vs, rfl, e, f⟩ := hi.sv r
  refine tG_of (pg_tup o.calm (pGs X es) (hn _) (hst _)) ⟨a, vs, rfl, .inl e, f.length.symm, ?_⟩
  exact h.run X H0 as0 o as σ H _ _ D f k
/-- target = e -/
theorem sx_asg (he : EX c Γ M e r M1) (hg : GX c Γ M1 tg r Γ2 M2) (hq : N.nx Γ2 M2) (hs : ∀ env, env.scope = c.sc → swapsWithSole [tg] e pos.line env = pure false := by intro _ _; rfl)
    (hw : ∀ env, env.scope = c.sc → swappedStores [tg] e env = pure none := by intro _ _; rfl) (h1 : ∀ env, (assignEach [tg] env).map (·.2) = [assign tg env] := by intro _; rfl) : SX c Γ M (.Assign [tg] e pos) N := by
  constructor
  intro X H0 as0 o as σ H D d f
  refine tS_of (ps_asg (pE X e) (pG X tg) (hs _ o.sc) (hw _ o.sc) (h1 _)) ?_
  refine he.run X H0 as0 o as σ H _ d fun v as1 H1 l1 D1 s1 => ?_
  exact hg.run X H0 as0 o as1 σ H1 v _ (d.next l1 D1) s1 fun as2 σ2 H2 l2 D2 => f.nx _ _ as2 σ2 H2 hq (l1.trans l2) D2
/-- a, b = x, y -/
theorem sx_par (i j : Nat) {v u : Str} {px py pt pt2 : Pos} {kt k2 : Nat} (ha : EA c Γ M [a, b] [x, y] M1) (hq : N.nx ((Γ.set i (some x)).set j (some y)) M1) (hi : c.N[i]? = some v := by rfl) (hj : c.N[j]? = some u := by rfl) (hij : i ≠ j := by decide)
    (hv : c.sc.names.lookup v = some .local := by rfl) (hu : c.sc.names.lookup u = some .local := by rfl)
    (hw : ∀ env, env.scope = c.sc → swappedStores [.Tuple [.Name v px, .Name u py] kt pt] (.Tuple [a, b] k2 pt2) env = pure (some [v, u]))
    (hs : ∀ env, swapsWithSole [.Tuple [.Name v px, .Name u py] kt pt] (.Tuple [a, b] k2 pt2) pos.line env = pure false := by intro _; rfl) : SX c Γ M (.Assign [.Tuple [.Name v px, .Name u py] kt pt] (.Tuple [a, b] k2 pt2) pos) N := by
  constructor
  intro X H0 as0 o as σ H D d f
  refine tS_of (ps_par (i := i) (j := j) o.calm o.nd' (by rw [o.N]; exact hi) (by rw [o.N]; exact hj) hij (by rw [o.sc]; exact hv) (by rw [o.sc]; exact hu) (pA X _) (hw _ o.sc) (hs _)) ?_
  refine ha.run X H0 as0 o as σ H _ d fun vs as1 H1 l1 D1 s1 => ?_
  cases s1 with
  | cons p q =>
    cases q with
    | cons p' q' =>
      cases q'
      exact ⟨_, _, rfl, f.nx _ _ as1 _ H1 hq l1 (((d.next l1 D1).set p).set p')⟩
end
end DL

namespace DL
open PySem PySem.Spec PyProof.Rows L2 DX

/-! ### loops -/
def tI (X : Cx) (tg iter : Expr) : TI := fun σ H R => ∀ pins s, Inv X pins σ H s → wpAny (model X.prog X.w) X.A (eval iter X.env) (fun v s1 => wpAny (model X.prog X.w) X.A (pyIter v) (PIE X pins σ tg R) X.xe s1) X.xe s
theorem pI (X : Cx) (tg iter : Expr) : PI X tg iter (tI X tg iter) := ⟨fun pins s σ H R I h => h pins s I⟩
theorem tI_of {X : Cx} {tg iter : Expr} {t : TI} (h : PI X tg iter t) {σ H R} (q : t σ H R) : tI X tg iter σ H R := fun pins s I => h.run pins s σ H R I q
/-- n items: the i-th is it i, while G holds of the store -/
structure WalkD (K : PySem.W.Frag) (T : Tb) (H0 : Hp) (as0 : List Addr) (J : It) (n : Nat) (as1 : List Addr) (H1 : Hp) (G : Sto → Prop) (it : Nat → S) : Prop where
  go : ∀ i as H M, i < n → Le as1 H1 as H → DenM K T H0 as0 M as H → G M → J.go i H
  yld : ∀ i as H M x H', i < n → Le as1 H1 as H → DenM K T H0 as0 M as H → G M → J.yld i H x H' → Same H H' ∧ SV K H' as (it i) x
  stop : ∀ as H M, Le as1 H1 as H → DenM K T H0 as0 M as H → G M → J.stop n H
structure IX (c : Cs) (Γ : Gm) (M : Sto) (tg iter : Expr) (n : Nat) (G : Sto → Prop) (it : Nat → S) (M1 : Sto) : Prop where
  run : ∀ X H0 as0, OkE c X H0 as0 → ∀ as σ H R, Den c.K c.T H0 as0 Γ M as σ H → (∀ J as1 H1, Le as H as1 H1 → DenM c.K c.T H0 as0 M1 as1 H1 → WalkD c.K c.T H0 as0 J n as1 H1 G it → R J H1) → tI X tg iter σ H R
/-- forgetting slots -/
def Fg (Γ Γ' : Gm) : Prop := Γ'.length = Γ.length ∧ ∀ (i : Nat) s, Γ'[i]? = some (some s) → Γ[i]? = some (some s)
theorem Fg.refl (Γ : Gm) : Fg Γ Γ := ⟨rfl, fun _ _ h => h⟩
theorem Den.fg {K : PySem.W.Frag} {T : Tb} {H0 H : Hp} {as0 as : List Addr} {σ : L2.St} {Γ Γ' : Gm} {M : Sto} (D : Den K T H0 as0 Γ M as σ H) (f : Fg Γ Γ') : Den K T H0 as0 Γ' M as σ H :=
  ⟨D.m, D.len.trans f.1.symm, fun i s e => D.loc i s (f.2 i s e)⟩
theorem DenM.le0 {K : PySem.W.Frag} {T : Tb} {H0 H : Hp} {as0 as : List Addr} {M : Sto} (D : DenM K T H0 as0 M as H) : as0.length ≤ M.length := by
  obtain ⟨l, e, _⟩ := D.new
  rw [← D.len, e, List.length_append]
  omega
theorem pick_nil {as as' : List Addr} {n : Nat} (h : as <+: as') (hn : as.length = n) : pick as' n [] = as := by
  obtain ⟨t, rfl⟩ := h
  unfold pick
  subst hn
  simp
/-- behind a turn: the new objects are forgotten -/
def Nxt (n : Nat) (P : Gm → Sto → Prop) : Gm → Sto → Prop := fun Γ M => ∃ Γ' M', Wk n [] Γ M Γ' M' ∧ P Γ' M'
section
variable {c : Cs} {Γ Γ' Γ1 Γ2 : Gm} {M M' M1 M2 M3 : Sto} {e a b tg iter : Expr} {r x y z s : S} {pos : Pos} {N : Nd} {body : List Stmt}
theorem sx_for {n : Nat} {G : Sto → Prop} {it : Nat → S} (hi : IX c Γ M tg iter n G it M1) (I : Nat → Gm → Sto → Prop) (h0 : ∃ Γ', Fg Γ Γ' ∧ I 0 Γ' M1) (hG : ∀ k Γ M, k ≤ n → I k Γ M → G M)
    (hs : ∀ k Γ M, k < n → I k Γ M → ∃ Γ1 M1, GX c Γ M tg (it k) Γ1 M1 ∧ BX c Γ1 M1 body { N with nx := Nxt M.length (I (k + 1)), ct := Nxt M.length (I (k + 1)), bk := N.nx })
    (hd : ∀ Γ M, I n Γ M → N.nx Γ M) (hf : ∀ env x, foldedSetIterable iter env x = pure x := by intro _ _; rfl) : SX c Γ M (.For tg iter body [] pos) N := by
  constructor
  intro X H0 as0 o as σ H D d f
  refine tS_of (ps_for o.own o.calm (pI X tg iter) (pG X tg) (pB X body) (hf _)) ?_
  refine hi.run X H0 as0 o as σ H _ d fun J as1 H1 l1 d1 w => ?_
  obtain ⟨Γ', fg, i0⟩ := h0
  refine ⟨fun i m σ' H' => m = n - i ∧ i ≤ n ∧ ∃ Γ2 M2 as2, Le as H as2 H' ∧ Le as1 H1 as2 H' ∧ Den c.K c.T H0 as0 Γ2 M2 as2 σ' H' ∧ I i Γ2 M2, ⟨n, by simp, Nat.zero_le _, Γ', M1, as1, l1, Le.refl _ _, (d.next l1 d1).fg fg, i0⟩, ?_⟩
  rintro i m σ2 H2 ⟨rfl, hle, Γ2, M2, as2, l2, p2, d2, i2⟩
  have g2 := hG i Γ2 M2 hle i2
  by_cases hlt : i < n
  · refine .inr ⟨w.go i as2 H2 M2 hlt p2 d2.m g2, fun σ' H' => ∃ Γ3 M3 as3, Le as H as3 H' ∧ Le as1 H1 as3 H' ∧ Den c.K c.T H0 as0 Γ3 M3 as3 σ' H' ∧ I (i + 1) Γ3 M3, ?_, fun x H3 y => ?_⟩
    · rintro σ' H' ⟨Γ3, M3, as3, q⟩
      exact ⟨n - (i + 1), by omega, rfl, hlt, Γ3, M3, as3, q⟩
    · obtain ⟨sm, sx⟩ := w.yld i as2 H2 M2 x H3 hlt p2 d2.m g2 y
      obtain ⟨Γ3, M3, gx, bx⟩ := hs i Γ2 M2 hlt i2
      have l3 : Le as2 H2 as2 H3 := .h (Same.tk sm)
      refine gx.run X H0 as0 o as2 σ2 H3 x _ (d2.next l3 (d2.m.grow sm)) sx fun as4 σ4 H4 l4 d4 => ?_
      have nxt : ∀ Γ5 M5 as5 σ5 H5, Nxt M2.length (I (i + 1)) Γ5 M5 → Le as4 H4 as5 H5 → Den c.K c.T H0 as0 Γ5 M5 as5 σ5 H5 → ∃ Γ6 M6 as6, Le as H as6 H5 ∧ Le as1 H1 as6 H5 ∧ Den c.K c.T H0 as0 Γ6 M6 as6 σ5 H5 ∧ I (i + 1) Γ6 M6 := by
        rintro Γ5 M5 as5 σ5 H5 ⟨Γ6, M6, wk, i6⟩ l5 d5
        have q := d5.weak d2.m.le0 wk
        rw [pick_nil ((l4.trans l5).pre) d2.m.len] at q
        exact ⟨Γ6, M6, as2, ⟨l2.pre, ((l2.trans l3).trans (l4.trans l5)).tk⟩, ⟨p2.pre, ((p2.trans l3).trans (l4.trans l5)).tk⟩, q, i6⟩
      refine bx.run X H0 as0 o as4 σ4 H4 _ d4 ⟨nxt, fun r M5 as5 v H5 h l5 d5 s5 => f.rt r M5 as5 v H5 h ((l2.trans l3).trans (l4.trans l5)) d5 s5, fun Γ5 M5 as5 σ5 H5 h l5 d5 => f.nx Γ5 M5 as5 σ5 H5 h ((l2.trans l3).trans (l4.trans l5)) d5, nxt, ?_⟩
      obtain ⟨W, tk, hx⟩ := f.xc
      exact ⟨W, tk, fun Γ5 C j M5 as5 σ5 H5 d h l5 m => hx Γ5 C j M5 as5 σ5 H5 d h ((l2.trans l3).trans (l4.trans l5)) m⟩
  · have e : i = n := by omega
    subst e
    exact .inl ⟨w.stop as2 H2 M2 p2 d2.m g2, f.nx Γ2 M2 as2 σ2 H2 (hd Γ2 M2 i2) l2 d2⟩
theorem sx_while {t : Expr} (I : Nat → Gm → Sto → Prop) (h0 : ∃ m Γ', Fg Γ Γ' ∧ I m Γ' M)
    (hs : ∀ m Γ M, I m Γ M → ∃ q M1, ET c Γ M t q M1 ∧ (q = true → BX c Γ M1 body { N with nx := Nxt M.length (fun Γ' M' => ∃ m', m' < m ∧ I m' Γ' M'), ct := Nxt M.length (fun Γ' M' => ∃ m', m' < m ∧ I m' Γ' M'), bk := N.nx }) ∧ (q = false → N.nx Γ M1)) :
    SX c Γ M (.While t body [] pos) N := by
  constructor
  intro X H0 as0 o as σ H D d f
  refine tS_of (ps_while o.own (pT X t) (pB X body)) ?_
  obtain ⟨m0, Γ', fg, i0⟩ := h0
  refine ⟨fun m σ' H' => ∃ Γ2 M2 as2, Le as H as2 H' ∧ Den c.K c.T H0 as0 Γ2 M2 as2 σ' H' ∧ I m Γ2 M2, ⟨m0, Γ', M, as, Le.refl _ _, d.fg fg, i0⟩, ?_⟩
  rintro m σ2 H2 ⟨Γ2, M2, as2, l2, d2, i2⟩
  obtain ⟨q, M3, et, h1, h2⟩ := hs m Γ2 M2 i2
  refine et.run X H0 as0 o as2 σ2 H2 _ d2 fun as3 H3 l3 d3 => ?_
  cases q with
  | false =>
    rw [if_neg Bool.false_ne_true]
    exact f.nx Γ2 M3 as3 σ2 H3 (h2 rfl) (l2.trans l3) (d2.next l3 d3)
  | true =>
    rw [if_pos rfl]
    refine ⟨fun σ' H' => ∃ m', m' < m ∧ ∃ Γ4 M4 as4, Le as H as4 H' ∧ Den c.K c.T H0 as0 Γ4 M4 as4 σ' H' ∧ I m' Γ4 M4, fun σ' H' ⟨m', lt, q⟩ => ⟨m', lt, q⟩, ?_⟩
    have nxt : ∀ Γ5 M5 as5 σ5 H5, Nxt M2.length (fun Γ' M' => ∃ m', m' < m ∧ I m' Γ' M') Γ5 M5 → Le as3 H3 as5 H5 → Den c.K c.T H0 as0 Γ5 M5 as5 σ5 H5 → ∃ m', m' < m ∧ ∃ Γ4 M4 as4, Le as H as4 H5 ∧ Den c.K c.T H0 as0 Γ4 M4 as4 σ5 H5 ∧ I m' Γ4 M4 := by
      rintro Γ5 M5 as5 σ5 H5 ⟨Γ6, M6, wk, m', lt, i6⟩ l5 d5
      have q := d5.weak d2.m.le0 wk
      rw [pick_nil ((l3.trans l5).pre) d2.m.len] at q
      exact ⟨m', lt, Γ6, M6, as2, ⟨l2.pre, (l2.trans (l3.trans l5)).tk⟩, q, i6⟩
    refine (h1 rfl).run X H0 as0 o as3 σ2 H3 _ (d2.next l3 d3) ⟨nxt, fun r M5 as5 v H5 h l5 d5 s5 => f.rt r M5 as5 v H5 h (l2.trans (l3.trans l5)) d5 s5, fun Γ5 M5 as5 σ5 H5 h l5 d5 => f.nx Γ5 M5 as5 σ5 H5 h (l2.trans (l3.trans l5)) d5, nxt, ?_⟩
    obtain ⟨W, tk, hx⟩ := f.xc
    exact ⟨W, tk, fun Γ5 C j M5 as5 σ5 H5 d h l5 m => hx Γ5 C j M5 as5 σ5 H5 d h (l2.trans (l3.trans l5)) m⟩

/-! ### what is walked -/
/-- the items of an object -/
def LItems : MO → List S → Prop
  | .lst xs, ss => ss = xs
  | .rl xs, ss => ss = xs
  | _, _ => False
theorem LItems.seq {K : PySem.W.Frag} {H : Hp} {as : List Addr} {m : MO} {ss : List S} {a : Addr} (h : LItems m ss) (r : MOk K H as a m) : ∃ vs, SqL K H a vs ∧ SVs K H as ss vs := by
  cases m with
  | lst xs => cases (show ss = xs from h); obtain ⟨vs, e, s⟩ := r; exact ⟨vs, SqL.of e, s⟩
  | rl xs => cases (show ss = xs from h); exact r
  | _ => exact h.elim
theorem SVs.list_inj {vs ws : List V} {X : Cx} {pins σ H s a} (I : Inv X pins σ H s) (h1 : SqL X.K H a vs) (h2 : SqL X.K H a ws) : vs = ws := I.list_inj h1 h2
/-- a list of the store -/
theorem ix_list' {k : Nat} {ss : List S} {m : MO} (he : EX c Γ M iter (.p k) M1) (hm : M1[k]? = some m) (hl : LItems m ss) : IX c Γ M tg iter ss.length (fun M => ∃ m, M[k]? = some m ∧ LItems m ss) (fun i => ss.getD i (.d .none)) M1 := by
  constructor
  intro X H0 as0 o as σ H R D q
  refine tI_of (pi_list (pE X iter)) ?_
  refine he.run X H0 as0 o as σ H _ D fun v as1 H1 l1 D1 s1 => ?_
  cases s1 with
  | p ea =>
    rename_i a
    obtain ⟨vs, hv, sv⟩ := hl.seq (D1.mem k m a hm ea)
    rw [o.K]
    refine ⟨a, rfl, ⟨vs, hv⟩, q _ as1 H1 l1 D1 ⟨fun i as2 H2 M2 hi p2 D2 ⟨m2, e2, g2⟩ => ?_, fun i as2 H2 M2 x H3 hi p2 D2 ⟨m2, e2, g2⟩ y => ?_, fun as2 H2 M2 p2 D2 ⟨m2, e2, g2⟩ => ?_⟩⟩
    · obtain ⟨ws, hw, sw⟩ := g2.seq (D2.mem k m2 a e2 (pre_get p2.pre ea))
      obtain ⟨v, ev, _⟩ := sw.at (List.getElem?_eq_getElem hi)
      exact ⟨ws, v, hw, ev⟩
    · obtain ⟨ws, hw, sw⟩ := g2.seq (D2.mem k m2 a e2 (pre_get p2.pre ea))
      obtain ⟨rfl, hy⟩ := y
      obtain ⟨v, ev, sv⟩ := sw.at (List.getElem?_eq_getElem hi)
      have ex := hy ws hw
      rw [ev] at ex
      cases ex
      refine ⟨fun _ _ h => h, ?_⟩
      simpa [List.getD, List.getElem?_eq_getElem hi] using sv
    · obtain ⟨ws, hw, sw⟩ := g2.seq (D2.mem k m2 a e2 (pre_get p2.pre ea))
      exact ⟨ws, hw, Nat.le_of_eq sw.length.symm⟩
/-- a tuple -/
theorem ix_tup' {ss : List S} (he : EX c Γ M iter s M1) (hl : Items s ss) : IX c Γ M tg iter ss.length (fun _ => True) (fun i => ss.getD i (.d .none)) M1 := by
  constructor
  intro X H0 as0 o as σ H R D q
  refine tI_of (pi_tup (pE X iter)) ?_
  refine he.run X H0 as0 o as σ H _ D fun v as1 H1 l1 D1 s1 => ?_
  obtain ⟨a, vs, rfl, ea, sv⟩ := hl.sv s1
  rw [o.K]
  have keep : ∀ {as2 H2}, Le as1 H1 as2 H2 → SqT c.K H2 a vs ∧ SVs c.K H2 as2 ss vs := fun p => ⟨.inl (p.tk.r ea), sv.le p⟩
  refine ⟨a, rfl, ⟨vs, .inl ea⟩, q _ as1 H1 l1 D1 ⟨fun i as2 H2 M2 hi p2 D2 g2 => ?_, fun i as2 H2 M2 x H3 hi p2 D2 g2 y => ?_, fun as2 H2 M2 p2 D2 g2 => ?_⟩⟩
  · obtain ⟨h1, h2⟩ := keep p2
    obtain ⟨v, ev, _⟩ := h2.at (List.getElem?_eq_getElem hi)
    exact ⟨vs, v, h1, ev⟩
  · obtain ⟨h1, h2⟩ := keep p2
    obtain ⟨rfl, hy⟩ := y
    obtain ⟨v, ev, sv⟩ := h2.at (List.getElem?_eq_getElem hi)
    have ex := hy vs h1
    rw [ev] at ex
    cases ex
    refine ⟨fun _ _ h => h, ?_⟩
    simpa [List.getD, List.getElem?_eq_getElem hi] using sv
  · obtain ⟨h1, h2⟩ := keep p2
    exact ⟨vs, h1, Nat.le_of_eq sv.length.symm⟩
abbrev gI : NameKind := .globalImplicit
/-- range(n), range(lo, hi) -/
theorem ix_range1 {n : Int} {p : Pos} {args : Expr} (he : EX c Γ M args (.d (.int n)) M1) (hn : n ≤ 1000000000 := by first | omega | decide) (h0 : -1000000000 ≤ n := by first | omega | decide) (hg : c.sc.names.lookup ("range" : Str) = some gI := by rfl) (hm : c.mg ("range" : Str) = none) (hs : ∀ env, starEach [args] env = [(false, eval args env)] := by intro _; rfl) :
    IX c Γ M tg (.Call (.Name "range" p) [args] [] pos) n.toNat (fun _ => True) (fun i => .d (.int (i : Nat))) M1 := by
  constructor
  intro X H0 as0 o as σ H R D q
  refine tI_of (pi_range1 (gl_ok o hg) (by rw [o.mg]; exact hm) (pA X [args]) (hs _)) ?_
  refine (ea_cons he ea_nil (fun env => by rw [hs]; rfl)).run X H0 as0 o as σ H _ D fun vs as1 H1 l1 D1 s1 => ?_
  cases s1 with
  | cons a b =>
    cases b
    cases sv_int a
    refine ⟨n, rfl, by omega, by omega, q _ as1 H1 l1 D1 ⟨fun i as2 H2 M2 hi p2 D2 g2 => hi, fun i as2 H2 M2 x H3 hi p2 D2 g2 y => ?_, fun as2 H2 M2 p2 D2 g2 => Nat.le_refl _⟩⟩
    obtain ⟨rfl, rfl⟩ := y
    refine ⟨fun _ _ h => h, ?_⟩
    rw [Int.zero_add]
    exact .d (.int _)
theorem ix_range2 {lo hi : Int} {p : Pos} {a1 a2 : Expr} (h1 : EX c Γ M a1 (.d (.int lo)) M1) (h2 : EX c Γ M1 a2 (.d (.int hi)) M2) (hn : hi ≤ 1000000000 := by first | omega | decide) (h0 : -1000000000 ≤ hi := by first | omega | decide)
    (hn' : lo ≤ 1000000000 := by first | omega | decide) (h0' : -1000000000 ≤ lo := by first | omega | decide) (hg : c.sc.names.lookup ("range" : Str) = some gI := by rfl) (hm : c.mg ("range" : Str) = none)
    (hs : ∀ env, starEach [a1, a2] env = [(false, eval a1 env), (false, eval a2 env)] := by intro _; rfl) (hs2 : ∀ env, starEach [a2] env = [(false, eval a2 env)] := by intro _; rfl) :
    IX c Γ M tg (.Call (.Name "range" p) [a1, a2] [] pos) (hi - lo).toNat (fun _ => True) (fun i => .d (.int (lo + (i : Nat)))) M2 := by
  constructor
  intro X H0 as0 o as σ H R D q
  refine tI_of (pi_range2 (gl_ok o hg) (by rw [o.mg]; exact hm) (pA X [a1, a2]) (hs _) (hs2 _)) ?_
  refine (ea_cons h1 (ea_cons h2 ea_nil (fun env => by rw [hs2]; rfl)) (fun env => by rw [hs, hs2])).run X H0 as0 o as σ H _ D fun vs as1 H1 l1 D1 s1 => ?_
  cases s1 with
  | cons a b =>
    cases b with
    | cons a' b' =>
    cases b'
    cases sv_int a
    cases sv_int a'
    refine ⟨lo, hi, rfl, ⟨by omega, by omega, by omega, by omega⟩, q _ as1 H1 l1 D1 ⟨fun i as2 H2 M2 hi p2 D2 g2 => hi, fun i as2 H2 M2 x H3 hi p2 D2 g2 y => ?_, fun as2 H2 M2 p2 D2 g2 => Nat.le_refl _⟩⟩
    obtain ⟨rfl, rfl⟩ := y
    exact ⟨fun _ _ h => h, .d (.int _)⟩
end

/-! ### functions -/
/-- args and the store's objects that are handed in, the result and the objects behind the call (the first ones are those handed in) -/
abbrev Rl := List S → Sto → S → Sto → Prop
def spD (K : PySem.W.Frag) (T : Tb) (n : Nat) (R : Rl) : Sp := fun vs H Q _ => ∃ args M as r M', args.length = n ∧ R args M r M' ∧ DenM K T H as M as H ∧ SVs K H as args vs ∧
  ∀ v as' H', Le as H as' H' → DenM K T H as M' as' H' → SV K H' as' r v → Q v H'
/-- what is fixed of the module -/
structure Ms where
  P : Program
  w : World
  K : PySem.W.Frag
  T : Tb
  mg : Str → Option Value
  base : Heap
abbrev Ms.cs (m : Ms) (N : List Str) (sc : Scope) (k : Nat) : Cs := ⟨m.P, m.w, m.K, m.T, m.mg, m.base, N, sc, k, fun _ => true, fun _ _ => True, fun _ _ => True⟩
abbrev Cs.ms (c : Cs) : Ms := ⟨c.P, c.w, c.K, c.T, c.mg, c.base⟩
/-- the def x of the text keeps R -/
def FnD (m : Ms) (k : Nat) (x : Str) (ps : List Str) (R : Rl) : Prop :=
  ∃ f fd, m.mg x = some (.ref f) ∧ PySem.W.keepIn m.K (.ref f) = true ∧ Binds m.K fd ps [] ∧ FnG m.P m.w m.K m.mg m.base CX0 k f fd ps (spD m.K m.T ps.length R)
/-- the def x stands in the text as st -/
def HasD (m : Ms) (x : Str) (st : Stmt) (ps : List Str) : Prop :=
  ∃ f fd, m.mg x = some (.ref f) ∧ Fun m.K x x st f fd ∧ Binds m.K fd ps []
theorem own_never {M : Model} {A : Around} {env : Env} : PassesOwn M A env (fun _ _ => False) := PassesOwn.never
/-- behind a body: r' over M'' is told as r over M -/
def Fin (n : Nat) (r' : S) (M'' : Sto) (r : S) (M' : Sto) : Prop := ∃ js, Keep n js M'' M' ∧ Ren (keepR n js) r' r
theorem DenM.entry {K : PySem.W.Frag} {T : Tb} {H : Hp} {as : List Addr} {M : Sto} (D : DenM K T H as M as H) : as.length = M.length := D.len
theorem start_at {N : List Str} {vs : List V} {i : Nat} (h : i < vs.length) : (L2.start N vs)[i]? = some (some vs[i]) := by
  unfold L2.start
  rw [List.getElem?_append_left (by simpa using h), List.getElem?_map, List.getElem?_eq_getElem h]
  rfl
theorem fnD_of {m : Ms} {x : Str} {st : Stmt} {ps N : List Str} {R : Rl} {k : Nat} (h : HasD m x st ps) (S : FnScope N ps (defScope st)) (hl : ps.length ≤ N.length)
    (body : ∀ args M r M', args.length = ps.length → R args M r M' → BX (m.cs N (defScope st) k) (args.map some ++ List.replicate (N.length - ps.length) none) M (defBody st)
      { nx := fun _ M'' => Fin M.length (.d .none) M'' r M', rt := fun r' M'' => Fin M.length r' M'' r M' }) : FnD m (k + 1) x ps R := by
  obtain ⟨f, fd, hm, F, hb⟩ := h
  refine ⟨f, fd, hm, F.kp, hb, fun_okG F S (fun vs H Q E h => ?_) (fun cdv A outer s H vs Q E _ hr hgd h => ?_)⟩
  · obtain ⟨args, M, as, r, M', e, _, _, sv, _⟩ := h
    rw [← sv.length, e]
  · obtain ⟨args, M, as, r, M', e, hR, D, sv, k1⟩ := h
    refine ⟨_, (pB (cxOf CX0 m.P m.w m.K m.mg m.base N x (defScope st) f cdv A outer s H E).nox (defBody st)).nox, ?_⟩
    have o : OkE (m.cs N (defScope st) k) (cxOf CX0 m.P m.w m.K m.mg m.base N x (defScope st) f cdv A outer s H E).nox H as := ⟨⟨rfl, rfl, rfl, rfl, rfl, rfl, rfl, rfl, hr, hgd, S.nd, S.kind, own_never, fun _ _ => rfl⟩, trivial, trivial⟩
    have fin : ∀ r' M'' as' v H', Fin M.length r' M'' r M' → Le as H as' H' → DenM m.K m.T H as M'' as' H' → SV m.K H' as' r' v → Q v H' := by
      rintro r' M'' as' v H' ⟨js, kp, rn⟩ l d s
      have q := d.keep (Nat.le_of_eq D.len) kp
      refine k1 v _ H' ⟨?_, l.tk⟩ q (s.ren (pick_ok d.len kp) rn)
      obtain ⟨t, et⟩ := l.pre
      unfold pick
      rw [← et, List.take_append_of_le_length (Nat.le_of_eq D.len.symm), List.take_of_length_le (Nat.le_of_eq D.len)]
      exact List.prefix_append _ _
    have hv : vs.length = ps.length := by rw [← sv.length, e]
    refine (body args M r M' e hR).run _ H as o as (L2.start N vs) H _ ⟨D, ?_, fun i t ht => ?_⟩ ⟨fun Γ2 M2 as2 σ2 H2 h l d => fin _ M2 as2 _ H2 h l d.m (.d .non), fun r2 M2 as2 v H2 h l d s => fin _ M2 as2 _ H2 h l d s, fun _ _ _ _ _ h => h.elim, fun _ _ _ _ _ h => h.elim, ⟨_, LamX.takes0, fun _ _ _ _ _ _ _ _ h => h.elim⟩⟩
    · unfold L2.start
      simp only [List.length_append, List.length_map, List.length_replicate, e, hv]
    · have hi : i < args.length := by
        by_cases q : i < args.length
        · exact q
        · rw [List.getElem?_append_right (by simpa using q), List.getElem?_replicate] at ht
          split at ht <;> cases ht
      rw [List.getElem?_append_left (by simpa using hi), List.getElem?_map, List.getElem?_eq_getElem hi] at ht
      cases ht
      obtain ⟨v, e1, e2⟩ := sv.at (List.getElem?_eq_getElem hi)
      refine ⟨v, ?_, e2⟩
      have hi' : i < vs.length := by omega
      rw [start_at hi']
      rw [List.getElem?_eq_getElem hi'] at e1
      rw [Option.some.inj e1]
end DL

namespace DL
open PySem PySem.Spec PyProof.Rows L2 DX

/-! ### calls -/
def inR (ks : List Nat) : Nat → Option Nat := fun k => ks.idxOf? k
def outR (ks : List Nat) (n : Nat) : Nat → Option Nat := fun i => if i < ks.length then ks[i]? else some (n + (i - ks.length))
/-- the caller hands the objects at ks: its rs, M are the callee's args, Mc; the callee's r', Mc' are the caller's r, M' -/
structure Proj (ks : List Nat) (rs : List S) (M : Sto) (args : List S) (Mc : Sto) (r' : S) (Mc' : Sto) (r : S) (M' : Sto) : Prop where
  nd : ks.Nodup
  lt : ∀ k ∈ ks, k < M.length
  args : Rens (inR ks) rs args
  mc : Mc.length = ks.length
  mi : ∀ (i : Nat) k m, ks[i]? = some k → M[k]? = some m → ∃ m', Mc[i]? = some m' ∧ RenM (inR ks) m m'
  len : Mc.length ≤ Mc'.length
  len' : M'.length = M.length + (Mc'.length - ks.length)
  r : Ren (outR ks M.length) r' r
  old : ∀ k, k < M.length → k ∉ ks → M'[k]? = M[k]?
  back : ∀ (i : Nat) m j, Mc'[i]? = some m → outR ks M.length i = some j → ∃ m', M'[j]? = some m' ∧ RenM (outR ks M.length) m m'
theorem Rens.length {ρ : Nat → Option Nat} : ∀ {xs ys : List S}, Rens ρ xs ys → xs.length = ys.length
  | _, _, .nil => rfl
  | _, _, .cons _ b => congrArg (· + 1) (Rens.length b)
theorem getD_of {as : List Addr} {k : Nat} (h : k < as.length) : as[k]? = some (as.getD k 0) := by
  simp [List.getD, List.getElem?_eq_getElem h]
section
variable {K : PySem.W.Frag} {T : Tb} {H0 H H' : Hp} {as0 as asc : List Addr} {M Mc Mc' M' : Sto} {ks : List Nat} {rs args : List S} {r r' : S}
abbrev sel (as : List Addr) (ks : List Nat) : List Addr := ks.map fun k => as.getD k 0
theorem inR_ok (nd : ks.Nodup) (lt : ∀ k ∈ ks, k < as.length) : RnOk (inR ks) as (sel as ks) := by
  intro k j e a ha
  have e1 := idxOf_get e
  rw [List.getElem?_map, e1]
  simp [List.getD, ha]
theorem sel_at (lt : ∀ k ∈ ks, k < as.length) {i : Nat} {a : Addr} (h : (sel as ks)[i]? = some a) : ∃ k, ks[i]? = some k ∧ as[k]? = some a := by
  rw [List.getElem?_map] at h
  obtain ⟨k, e, q⟩ := Option.map_eq_some_iff.mp h
  refine ⟨k, e, ?_⟩
  rw [getD_of (lt k (List.mem_of_getElem? e)), q]
theorem sel_nodup (nd : ks.Nodup) (lt : ∀ k ∈ ks, k < as.length) (ha : as.Nodup) : (sel as ks).Nodup := by
  induction ks with
  | nil => simp [sel]
  | cons k ks ih =>
    show (as.getD k 0 :: sel as ks).Nodup
    rw [List.nodup_cons]
    refine ⟨fun z => ?_, ih (List.nodup_cons.mp nd).2 fun j hj => lt j (List.mem_cons_of_mem _ hj)⟩
    obtain ⟨j, hj, ej⟩ := List.mem_map.mp z
    have q1 := getD_of (lt k List.mem_cons_self)
    have q2 := getD_of (lt j (List.mem_cons_of_mem _ hj))
    rw [ej] at q2
    obtain ⟨h1, q1⟩ := List.getElem?_eq_some_iff.mp q1
    obtain ⟨h2, q2⟩ := List.getElem?_eq_some_iff.mp q2
    have := (List.getElem_inj ha).mp (q1.trans q2.symm)
    subst this
    exact (List.nodup_cons.mp nd).1 hj
theorem RenM.oth_to {ρ : Nat → Option Nat} {m : MO} {φ : Hp → Addr → Prop} (r : RenM ρ (.oth φ) m) : m = .oth φ := by
  cases r
  rfl
/-- the callee's entry -/
theorem DenM.enter (D : DenM K T H0 as0 M as H) (p : Proj ks rs M args Mc r' Mc' r M') : DenM K T H (sel as ks) Mc (sel as ks) H := by
  have lt : ∀ k ∈ ks, k < as.length := fun k h => by rw [D.len]; exact p.lt k h
  have at_ : ∀ (i : Nat) m a, Mc[i]? = some m → (sel as ks)[i]? = some a → ∃ k m0, ks[i]? = some k ∧ as[k]? = some a ∧ M[k]? = some m0 ∧ RenM (inR ks) m0 m := fun i m a e1 e2 => by
    obtain ⟨k, ek, ea⟩ := sel_at lt e2
    have hk := p.lt k (List.mem_of_getElem? ek)
    obtain ⟨m', e3, rn⟩ := p.mi i k M[k] ek (List.getElem?_eq_getElem hk)
    rw [e1] at e3
    cases e3
    exact ⟨k, _, ek, ea, List.getElem?_eq_getElem hk, rn⟩
  refine ⟨sel_nodup p.nd lt D.nd, by rw [List.length_map, p.mc], ⟨[], by simp, by simp⟩, Tk.refl _, fun a o e _ _ => e, fun a ps e => ⟨#[], by rw [Array.append_empty]; exact e⟩, D.tab, fun i m a e1 e2 => ?_, fun a ha => ?_, fun i φ e1 => ?_⟩
  · obtain ⟨k, m0, ek, ea, em, rn⟩ := at_ i m a e1 e2
    exact (D.mem k m0 a em ea).ren (inR_ok p.nd lt) rn
  · obtain ⟨k, hk, rfl⟩ := List.mem_map.mp ha
    exact D.there _ (List.mem_of_getElem? (getD_of (lt k hk)))
  · have hi : i < ks.length := by
      rw [← p.mc]
      exact (List.getElem?_eq_some_iff.mp e1).1
    obtain ⟨k, m0, ek, ea, em, rn⟩ := at_ i _ ((sel as ks)[i]'(by simpa [sel] using hi)) e1 (List.getElem?_eq_getElem _)
    exact D.st k φ (by rw [em, rn.oth_of])
/-- behind the callee -/
theorem DenM.back (D : DenM K T H0 as0 M as H) (p : Proj ks rs M args Mc r' Mc' r M') (l : Le (sel as ks) H asc H') (C : DenM K T H (sel as ks) Mc' asc H') :
    ∃ as', Le as H as' H' ∧ DenM K T H0 as0 M' as' H' ∧ RnOk (outR ks M.length) asc as' := by
  have lt : ∀ k ∈ ks, k < as.length := fun k h => by rw [D.len]; exact p.lt k h
  obtain ⟨t, et, ht⟩ := C.new
  have hsl : (sel as ks).length = ks.length := by simp [sel]
  have hal : as.length = M.length := D.len
  have htl : t.length = Mc'.length - ks.length := by
    have := C.len
    rw [et, List.length_append, hsl] at this
    omega
  have tn : ∀ a ∈ t, a ∉ as := fun a ha hz => by
    obtain ⟨o, e, _⟩ := D.there a hz
    rw [ht a ha] at e
    cases e
  have ok : RnOk (outR ks M.length) asc (as ++ t) := by
    intro i j e a ha
    unfold outR at e
    rw [et] at ha
    split at e
    · rename_i hi
      rw [List.getElem?_append_left (by omega)] at ha
      obtain ⟨k, ek, ea⟩ := sel_at lt ha
      rw [e] at ek
      cases ek
      rw [List.getElem?_append_left (List.getElem?_eq_some_iff.mp ea).1]
      exact ea
    · rename_i hi
      cases e
      rw [List.getElem?_append_right (by omega), hsl] at ha
      rw [List.getElem?_append_right (by omega), hal, Nat.add_sub_cancel_left]
      exact ha
  have notin : ∀ (k : Nat) a, as[k]? = some a → k ∉ ks → a ∉ asc := fun k a ea hk hz => by
    rw [et] at hz
    rcases List.mem_append.mp hz with hz | hz
    · obtain ⟨j, hj, ej⟩ := List.mem_map.mp hz
      have q2 := getD_of (lt j hj)
      rw [ej] at q2
      obtain ⟨h1, q1⟩ := List.getElem?_eq_some_iff.mp ea
      obtain ⟨h2, q2⟩ := List.getElem?_eq_some_iff.mp q2
      have := (List.getElem_inj D.nd).mp (q1.trans q2.symm)
      subst this
      exact hk hj
    · exact tn a hz (List.mem_of_getElem? ea)
  have Lx : Le as H (as ++ t) H' := ⟨List.prefix_append _ _, l.tk⟩
  -- each object of the caller's new store
  have cases_ : ∀ (k : Nat) m a, M'[k]? = some m → (as ++ t)[k]? = some a → (k < M.length ∧ k ∉ ks ∧ M[k]? = some m ∧ as[k]? = some a) ∨ ∃ (i : Nat) (m0 : MO), Mc'[i]? = some m0 ∧ asc[i]? = some a ∧ RenM (outR ks M.length) m0 m := by
    intro k m a e1 e2
    by_cases hk : k < M.length
    · rw [List.getElem?_append_left (by omega)] at e2
      by_cases hm : k ∈ ks
      · obtain ⟨i, hi, ei⟩ := List.mem_iff_getElem.mp hm
        have hi' : i < Mc'.length := by have := p.mc; have := p.len; omega
        have eo : outR ks M.length i = some k := by
          unfold outR
          rw [if_pos hi, List.getElem?_eq_getElem hi, ei]
        obtain ⟨m', e3, rn⟩ := p.back i _ k (List.getElem?_eq_getElem hi') eo
        rw [e1] at e3
        cases e3
        refine .inr ⟨i, _, List.getElem?_eq_getElem hi', ?_, rn⟩
        rw [et, List.getElem?_append_left (by omega), List.getElem?_map, List.getElem?_eq_getElem hi, ei]
        simp [List.getD, e2]
      · exact .inl ⟨hk, hm, by rw [← p.old k hk hm]; exact e1, e2⟩
    · have q := (List.getElem?_eq_some_iff.mp e1).1
      rw [p.len'] at q
      have hi' : ks.length + (k - M.length) < Mc'.length := by have := p.mc; have := p.len; omega
      have eo : outR ks M.length (ks.length + (k - M.length)) = some k := by
        unfold outR
        rw [if_neg (by omega)]
        congr 1
        omega
      obtain ⟨m', e3, rn⟩ := p.back _ _ k (List.getElem?_eq_getElem hi') eo
      rw [e1] at e3
      cases e3
      refine .inr ⟨_, _, List.getElem?_eq_getElem hi', ?_, rn⟩
      rw [List.getElem?_append_right (by omega), hal] at e2
      rw [et, List.getElem?_append_right (by omega), hsl, Nat.add_sub_cancel_left]
      exact e2
  refine ⟨as ++ t, Lx, ⟨?_, ?_, ?_, D.le.trans l.tk, fun a o h1 nt h2 => ?_, fun a ps e => ?_, C.tab, fun k m a e1 e2 => ?_, fun a ha => ?_, fun k φ e1 => ?_⟩, ok⟩
  · rw [List.nodup_append]
    refine ⟨D.nd, ?_, fun a ha b hb z => tn b hb (z ▸ ha)⟩
    have := C.nd
    rw [et, List.nodup_append] at this
    exact this.2.1
  · rw [List.length_append, p.len', htl, hal]
  · obtain ⟨l0, e0, h0⟩ := D.new
    refine ⟨l0 ++ t, by rw [e0, List.append_assoc], fun a ha => ?_⟩
    rcases List.mem_append.mp ha with z | z
    · exact h0 a z
    · exact D.h0 (ht a z)
  · have h3 : a ∉ as := fun z => h2 (List.mem_append_left _ z)
    refine C.fr a o (D.fr a o h1 nt h3) nt fun z => ?_
    rw [et] at z
    rcases List.mem_append.mp z with z | z
    · obtain ⟨j, hj, ej⟩ := List.mem_map.mp z
      have q2 := getD_of (lt j hj)
      rw [ej] at q2
      exact h3 (List.mem_of_getElem? q2)
    · exact h2 (List.mem_append_right _ z)
  · obtain ⟨m1, q1⟩ := D.tb a ps e
    obtain ⟨m2, q2⟩ := C.tb a _ q1
    exact ⟨m1 ++ m2, by rw [← Array.append_assoc]; exact q2⟩
  · rcases cases_ k m a e1 e2 with ⟨hk, hm, em, ea⟩ | ⟨i, m0, em, ea, rn⟩
    · have ha : H' a = H a := by
        obtain ⟨o, e, tr⟩ := D.there a (List.mem_of_getElem? ea)
        rw [e, C.fr a o e tr.tbl (notin k a ea hm)]
      exact MOk.le Lx ha (fun φ e h => by subst e; exact D.st k φ em H H' a h ha) (D.mem k m a em ea)
    · exact (C.mem i m0 a em ea).ren ok rn
  · rcases List.mem_append.mp ha with z | z
    · obtain ⟨k, hk, ek⟩ := List.mem_iff_getElem.mp z
      have ea : as[k]? = some a := by rw [List.getElem?_eq_getElem hk, ek]
      by_cases hm : k ∈ ks
      · refine C.there a ?_
        rw [et]
        refine List.mem_append_left _ (List.mem_map.mpr ⟨k, hm, ?_⟩)
        simp [List.getD, ea]
      · obtain ⟨o, e, n⟩ := D.there a z
        exact ⟨o, C.fr a o e n.tbl (notin k a ea hm), n⟩
    · refine C.there a ?_
      rw [et]
      exact List.mem_append_right _ z
  · have hk : k < (as ++ t).length := by
      have q := (List.getElem?_eq_some_iff.mp e1).1
      rw [p.len'] at q
      rw [List.length_append]
      omega
    rcases cases_ k _ _ e1 (List.getElem?_eq_getElem hk) with ⟨_, _, em, _⟩ | ⟨i, m0, em, _, rn⟩
    · exact D.st k φ em
    · exact C.st i φ (by rw [em, rn.oth_of])
end
section
variable {c : Cs} {Γ : Gm} {M M1 M2 Mc Mc' : Sto} {e : Expr} {es : List Expr} {r r' : S} {rs args : List S} {p pos : Pos} {x : Str} {ps : List Str} {R : Rl} {j : Nat}
theorem ex_call (ks : List Nat) (F : FnD c.ms j x ps R) (ha : EA c Γ M (e :: es) rs M1) (hR : R args Mc r' Mc') (hp : Proj ks rs M1 args Mc r' Mc' r M2) (hl : rs.length = ps.length) (hj : j ≤ c.k := by exact Nat.le_of_ble_eq_true rfl) (hg : c.sc.names.lookup x = some gI := by rfl)
    (hdb : (x == ("__debug__" : Str)) = false := by decide) (he : ∀ env, starEach (e :: es) env = (false, eval e env) :: starEach es env := by intro _; rfl) (hpl : ∀ env, (backTo pos (starEach es env)).any (·.1) = false := by intro _; rfl) :
    EX c Γ M (.Call (.Name x p) (e :: es) [] pos) r M2 := by
  constructor
  intro X H0 as0 o as σ H Q D k
  obtain ⟨f, fd, hm, hk, hb, G⟩ := F
  have G' : FnG X.prog X.w X.K X.mg X.base CX0 j f fd ps (spD c.K c.T ps.length R) := by
    rw [o.P, o.w, o.K, o.mg, o.base]
    exact G
  refine tE_of (pe_callG (E := fun _ _ _ _ => False) (G'.mono hj) o.room o.gd (gl_ok o hg) (by rw [o.mg]; exact hm) (by rw [o.K]; exact hk) (by rw [o.K]; exact hb) (fun _ => passAt0') (pA X _) hdb (he _) (hpl _)) ?_
  refine ha.run X H0 as0 o as σ H _ D fun vs as1 H1 l1 D1 s1 => ?_
  refine ⟨args, Mc, sel as1 ks, r', Mc', ?_, hR, D1.enter hp, s1.ren (inR_ok hp.nd fun k h => by rw [D1.len]; exact hp.lt k h) hp.args, fun v asc H2 l2 C s2 => ?_⟩
  · rw [← hp.args.length, hl]
  · obtain ⟨as2, l3, D2, ok⟩ := D1.back hp l2 C
    exact k v as2 H2 (l1.trans l3) D2 (s2.ren ok hp.r)
/-- data in, data out -/
theorem proj_d {ds : List PyData} {d : PyData} {M : Sto} : Proj [] (ds.map S.d) M (ds.map S.d) [] (.d d) [] (.d d) M where
  nd := List.nodup_nil
  lt := fun _ h => by cases h
  args := Rens.data _ _
  mc := rfl
  mi := fun i k m e => by simp at e
  len := Nat.le_refl _
  len' := by simp
  r := .d d
  old := fun _ _ _ => rfl
  back := fun i m j e => by simp at e
/-- data in, a new object without pointers out -/
theorem proj_n {ds : List PyData} {M : Sto} {m : MO} (hm : RenM (outR [] M.length) m m) : Proj [] (ds.map S.d) M (ds.map S.d) [] (.p 0) [m] (.p M.length) (M ++ [m]) where
  nd := List.nodup_nil
  lt := fun _ h => by cases h
  args := Rens.data _ _
  mc := rfl
  mi := fun i k m e => by simp at e
  len := Nat.zero_le _
  len' := by simp
  r := .p rfl
  old := fun k h _ => List.getElem?_append_left h
  back := fun i m' j e eo => by
    have hi : i = 0 := by
      have := (List.getElem?_eq_some_iff.mp e).1
      simp at this
      exact this
    subst hi
    simp at e
    subst e
    have ej : j = M.length := by
      have : some (M.length + (0 - 0)) = some j := eo
      simpa using this.symm
    subst ej
    exact ⟨m, by simp, hm⟩
end
end DL

namespace DL
open PySem PySem.Spec PyProof.Rows L2

section
variable {c : Cs} {Γ : Gm} {M M' M1 M2 M3 : Sto} {e a b : Expr} {r x y z s : S} {pos : Pos} {i j : Int}
/-! ### operations on two values -/
theorem os_of {f : Value → Value → Sem Value} (R : Cx → R2) (hR : ∀ X, OkX c X → OpR X f (R X))
    (hq : ∀ X H0 as0, OkE c X H0 as0 → ∀ as H u v (Q : VK), DenM c.K c.T H0 as0 M as H → SV c.K H as x u → SV c.K H as y v → (∀ z as' H', Le as H as' H' → DenM c.K c.T H0 as0 M' as' H' → SV c.K H' as' r z → Q z H') → R X u v H Q) : OS c f x y M r M' :=
  ⟨fun X H0 as0 o => ⟨R X, hR X o, hq X H0 as0 o⟩⟩
/-- the store and the heap stay; the answer is told by the values alone -/
theorem os_val {f : Value → Value → Sem Value} {R : R2} (hR : ∀ X, OkX c X → OpR X f R) (hq : ∀ H as u v (Q : VK), SV c.K H as x u → SV c.K H as y v → (∀ z, SV c.K H as r z → Q z H) → R u v H Q) : OS c f x y M r M :=
  os_of (fun _ => R) hR fun _ _ _ _ as H u v Q D sx sy k => hq H as u v Q sx sy fun z sz => k z as H (Le.refl _ _) D sz
theorem os_int {f : Value → Value → Sem Value} {C : Int → Int → Prop} {g : Int → Int → Int} (hR : ∀ X, OpR X f (rI C fun i j => .int (g i j))) (hc : C i j) : OS c f (.d (.int i)) (.d (.int j)) M (.d (.int (g i j))) M :=
  os_val (fun X _ => hR X) fun H as u v Q sx sy k => ⟨i, j, sv_int sx, sv_int sy, hc, k _ (.d (.int _))⟩
theorem os_int0 {f : Value → Value → Sem Value} {g : Int → Int → Int} (hR : ∀ X, OpR X f (rI0 fun i j => .int (g i j))) : OS c f (.d (.int i)) (.d (.int j)) M (.d (.int (g i j))) M :=
  os_val (fun X _ => hR X) fun H as u v Q sx sy k => ⟨i, j, sv_int sx, sv_int sy, k _ (.d (.int _))⟩
theorem os_boo0 {f : Value → Value → Sem Value} {g : Int → Int → Bool} (hR : ∀ X, OpR X f (rI0 fun i j => .bl (g i j))) : OS c f (.d (.int i)) (.d (.int j)) M (.d (.bool (g i j))) M :=
  os_val (fun X _ => hR X) fun H as u v Q sx sy k => ⟨i, j, sv_int sx, sv_int sy, k _ (.d (.bl _))⟩
theorem os_add : OS c (binaryOp .Add) (.d (.int i)) (.d (.int j)) M (.d (.int (i + j))) M := os_int0 fun _ => op_add
theorem os_sub : OS c (binaryOp .Sub) (.d (.int i)) (.d (.int j)) M (.d (.int (i - j))) M := os_int0 fun _ => op_sub
theorem os_mul (h : CMul i j) : OS c (binaryOp .Mult) (.d (.int i)) (.d (.int j)) M (.d (.int (i * j))) M := os_int (fun _ => op_mul) h
theorem os_mod (h : 0 < j) : OS c (binaryOp .Mod) (.d (.int i)) (.d (.int j)) M (.d (.int (i % j))) M := os_int (fun _ => op_mod) h
theorem os_div (h : 0 < j ∧ j < 1073741824) : OS c (binaryOp .FloorDiv) (.d (.int i)) (.d (.int j)) M (.d (.int (i / j))) M := os_int (C := CDiv) (fun _ => op_fdiv) h
theorem os_pow (h : CPow i j) : OS c (binaryOp .Pow) (.d (.int i)) (.d (.int j)) M (.d (.int (i ^ j.toNat))) M := os_int (fun _ => op_pow) h
theorem os_lt : OS c (compareOp .Lt) (.d (.int i)) (.d (.int j)) M (.d (.bool (decide (i < j)))) M := os_boo0 fun _ => op_lt
theorem os_le : OS c (compareOp .LtE) (.d (.int i)) (.d (.int j)) M (.d (.bool (decide (i ≤ j)))) M := os_boo0 fun _ => op_le
theorem os_gt : OS c (compareOp .Gt) (.d (.int i)) (.d (.int j)) M (.d (.bool (decide (j < i)))) M := os_boo0 fun _ => op_gt
theorem os_ge : OS c (compareOp .GtE) (.d (.int i)) (.d (.int j)) M (.d (.bool (decide (j ≤ i)))) M := os_boo0 fun _ => op_ge
/-- == of ints, texts -/
theorem os_eqI : OS c (compareOp .Eq) (.d (.int i)) (.d (.int j)) M (.d (.bool (decide (i = j)))) M :=
  os_val (fun X _ => op_eq) fun H as u v Q sx sy k => by
    cases sv_int sx
    cases sv_int sy
    refine ⟨rfl, ?_⟩
    rw [dec_int, Bool.beq_eq_decide_eq]
    exact k _ (.d (.bl _))
theorem os_neI : OS c (compareOp .NotEq) (.d (.int i)) (.d (.int j)) M (.d (.bool (!decide (i = j)))) M :=
  os_val (fun X _ => op_ne) fun H as u v Q sx sy k => by
    cases sv_int sx
    cases sv_int sy
    refine ⟨rfl, ?_⟩
    rw [dec_int, Bool.beq_eq_decide_eq]
    exact k _ (.d (.bl _))
/-! ### data of values, lists among them -/
/-- what a value is as data; lists of the store read whole -/
inductive Dt (M : Sto) : S → PyData → Prop
  | d (x : PyData) : Dt M (.d x) x
  | q {b : Bool} (ds : List PyData) : Dt M (.q b ds) (.tuple ds)
  | l {k : Nat} {m : MO} {ss : List S} {ds : List PyData} : M[k]? = some m → LItems m ss → ss = ds.map S.d → Dt M (.p k) (.list ds)
theorem Dt.dp {K : PySem.W.Frag} {T : Tb} {H0 H : Hp} {as0 as : List Addr} {d : PyData} {v : V} (D : DenM K T H0 as0 M as H) (h : Dt M s d) (r : SV K H as s v) : Dp K H v d := by
  cases h with
  | d => cases r with | d q => exact q.dp
  | q => cases r with | q e f => exact .tup (.inl e.rd) (ImAll.dp f)
  | l e1 e2 e3 =>
    cases r with
    | p ea =>
      obtain ⟨vs, h1, h2⟩ := e2.seq (D.mem _ _ _ e1 ea)
      subst e3
      exact .lst h1 (SVs.data h2).dp
theorem os_eqD {d e : PyData} (hx : Dt M x d) (hy : Dt M y e) (sd : SeqAt.shaped d = true) (se : SeqAt.shaped e = true) : OS c (compareOp .Eq) x y M (.d (.bool (PyData.eqv d e))) M :=
  os_of (fun X => rEqD X.K) (fun X o => op_eqD o.room.units) fun X H0 as0 o as H u v Q D sx sy k => by
    rw [o.K]
    exact ⟨d, e, hx.dp D sx, hy.dp D sy, sd, se, k _ as H (Le.refl _ _) D (.d (.bl _))⟩
theorem os_neD {d e : PyData} (hx : Dt M x d) (hy : Dt M y e) (sd : SeqAt.shaped d = true) (se : SeqAt.shaped e = true) : OS c (compareOp .NotEq) x y M (.d (.bool (!PyData.eqv d e))) M :=
  os_of (fun X => rNeD X.K) (fun X o => op_neD o.room.units) fun X H0 as0 o as H u v Q D sx sy k => by
    rw [o.K]
    exact ⟨d, e, hx.dp D sx, hy.dp D sy, sd, se, k _ as H (Le.refl _ _) D (.d (.bl _))⟩
/-! ### a new object -/
theorem new_obj {K : PySem.W.Frag} {T : Tb} {H0 H : Hp} {as0 as : List Addr} {o : HO} {m : MO} {Q : VK} (D : DenM K T H0 as0 M as H) {p : Addr} (hp : H p = none) (hn : DX.Tr p o) (hm : MOk K (upd H p o) (as ++ [p]) p m) (hs : ∀ φ, m = .oth φ → Stands φ)
    (k : ∀ z as' H', Le as H as' H' → DenM K T H0 as0 (M ++ [m]) as' H' → SV K H' as' (.p M.length) z → Q z H') : Q (.ref p) (upd H p o) := by
  refine k (.ref p) (as ++ [p]) _ ⟨List.prefix_append _ _, Same.tk (Same.new hp)⟩ (D.push hp hn hm hs) (.p ?_)
  rw [← D.len, List.getElem?_append_right (Nat.le_refl _)]
  simp
theorem new_tup {K : PySem.W.Frag} {T : Tb} {H0 H : Hp} {as0 as : List Addr} {vs : List V} {ss : List S} {Q : VK} (D : DenM K T H0 as0 M as H) {p : Addr} (hp : H p = none) (hs : SVs K H as ss vs)
    (k : ∀ z as' H', Le as H as' H' → DenM K T H0 as0 M as' H' → SV K H' as' (mkT ss) z → Q z H') : Q (.ref p) (upd H p (.tup vs)) :=
  k (.ref p) as _ (.h (Same.tk (Same.new hp))) (D.grow (Same.new hp)) (mkT_sv (hs.le (.h (Same.tk (Same.new hp)))) (.inl upd_same))
theorem le_new {as : List Addr} {H : Hp} {p : Addr} {o : HO} (hp : H p = none) : Le as H (as ++ [p]) (upd H p o) := ⟨List.prefix_append _ _, Same.tk (Same.new hp)⟩
theorem mok_lst {K : PySem.W.Frag} {H : Hp} {as : List Addr} {p : Addr} {vs : List V} {ss : List S} (hp : H p = none) (h : SVs K H as ss vs) : MOk K (upd H p (.lst vs)) (as ++ [p]) p (.lst ss) := ⟨vs, upd_same, h.le (le_new hp)⟩
theorem no_lst {a : Addr} {xs : List V} : DX.Tr a (.lst xs) := .lst
theorem no_oth {xs : List S} : ∀ φ, MO.lst xs = .oth φ → Stands φ := fun _ z => by cases z
/-- list + list -/
theorem os_cat {k j : Nat} {xs ys : List S} (hx : M[k]? = some (.lst xs)) (hy : M[j]? = some (.lst ys)) (hl : xs.length + ys.length ≤ 1000000) : OS c (binaryOp .Add) (.p k) (.p j) M (.p M.length) (M ++ [.lst (xs ++ ys)]) :=
  os_of (fun _ => rCat) (fun X o => op_cat) fun X H0 as0 o as H u v Q D sx sy q => by
    cases sx with
    | p ea =>
      cases sy with
      | p eb =>
        obtain ⟨us, h1, s1⟩ := D.mem k _ _ hx ea
        obtain ⟨ws, h2, s2⟩ := D.mem j _ _ hy eb
        refine ⟨_, _, us, ws, rfl, rfl, h1, h2, ?_, fun p hp => new_obj D hp no_lst (mok_lst hp (s1.app s2)) no_oth q⟩
        rw [← s1.length, ← s2.length]
        exact Nat.le_trans hl (by decide)
/-- list * int -/
theorem os_rep {k : Nat} {xs : List S} (hx : M[k]? = some (.lst xs)) (h0 : -(2 ^ 63) ≤ j) (h1 : j < 2 ^ 63) (hl : xs.length * j.toNat ≤ 1000000) : OS c (binaryOp .Mult) (.p k) (.d (.int j)) M (.p M.length) (M ++ [.lst (List.replicate j.toNat xs).flatten]) :=
  os_of (fun _ => rRep) (fun X o => op_rep) fun X H0 as0 o as H u v Q D sx sy q => by
    cases sv_int sy
    cases sx with
    | p ea =>
      obtain ⟨us, h1', s1⟩ := D.mem k _ _ hx ea
      refine ⟨_, j, us, rfl, rfl, h1', h0, h1, ?_, fun p hp => new_obj D hp no_lst (mok_lst hp ?_) no_oth q⟩
      · rw [← s1.length]
        exact Nat.le_trans hl (by decide)
      · have : ∀ n : Nat, SVs c.K H as (List.replicate n xs).flatten (List.replicate n us).flatten := fun n => by
          induction n with
          | zero => exact .nil
          | succ n ih =>
            rw [List.replicate_succ, List.replicate_succ, List.flatten_cons, List.flatten_cons]
            exact s1.app ih
        exact this _
/-- tuple * int -/
theorem os_repT {ss : List S} (hi : Items x ss) (hne : ss ≠ []) (h2 : 2 ≤ j) (hk : j ≤ 1000) (hl : ss.length ≤ 1000) : OS c (binaryOp .Mult) x (.d (.int j)) M (mkT (List.replicate j.toNat ss).flatten) M :=
  os_of (fun X => rRepT X.K) (fun X o => op_repT) fun X H0 as0 o as H u v Q D sx sy q => by
    cases sv_int sy
    obtain ⟨a, vs, rfl, e, sv⟩ := hi.sv sx
    refine ⟨a, j, vs, rfl, rfl, .inl e, ?_, h2, hk, by rw [← sv.length]; exact hl, fun p hp => new_tup D hp ?_ q⟩
    · intro z
      subst z
      cases sv
      exact hne rfl
    · have : ∀ n : Nat, SVs c.K H as (List.replicate n ss).flatten (List.replicate n vs).flatten := fun n => by
        induction n with
        | zero => exact .nil
        | succ n ih =>
          rw [List.replicate_succ, List.replicate_succ, List.flatten_cons, List.flatten_cons]
          exact sv.app ih
      exact this _
/-- text + text -/
theorem os_addS {p q : Str} (hl : p.length + q.length ≤ 1000000) : OS c (binaryOp .Add) (.d (.str p)) (.d (.str q)) M (.d (.str (p ++ q))) M :=
  os_val (fun X _ => op_add_str) fun H as u v Q sx sy k => ⟨p, q, sv_str sx, sv_str sy, Nat.le_trans hl (by decide), k _ (.d (.str _))⟩
/-- text in text -/
theorem os_inS {p q : Str} : OS c (compareOp .In) (.d (.str p)) (.d (.str q)) M (.d (.bool (!(Builtin.Str.occurrences q p 0 q.length 1).isEmpty))) M :=
  os_val (fun X _ => op_in_str) fun H as u v Q sx sy k => ⟨p, q, sv_str sx, sv_str sy, k _ (.d (.bl _))⟩
/-- is None -/
theorem sv_notnone {K : PySem.W.Frag} {H : Hp} {as : List Addr} {v : V} (h : SV K H as s v) : (v = .non) ↔ (s = .d .none ∨ s = .v .non) := by
  cases h with
  | d q => cases q <;> simp
  | p q => simp
  | v u => simp
  | t q f => simp
  | q q f => simp
def isN : S → Bool
  | .d .none => true
  | .v .non => true
  | _ => false
theorem isN_of {K : PySem.W.Frag} {H : Hp} {as : List Addr} {v : V} (h : SV K H as s v) : decide (v = .non) = isN s := by
  cases h with
  | d q => cases q <;> simp [isN]
  | p q => simp [isN]
  | v => cases v <;> simp [isN]
  | t q f => simp [isN]
  | q q f => simp [isN]
theorem os_is : OS c (compareOp .Is) x (.d .none) M (.d (.bool (isN x))) M :=
  os_val (fun X _ => op_isN) fun H as u v Q sx sy k => by
    refine ⟨sv_none sy, ?_⟩
    rw [isN_of sx]
    exact k _ (.d (.bl _))
theorem os_isnot : OS c (compareOp .IsNot) x (.d .none) M (.d (.bool (!isN x))) M :=
  os_val (fun X _ => op_notN) fun H as u v Q sx sy k => by
    refine ⟨sv_none sy, ?_⟩
    rw [isN_of sx]
    exact k _ (.d (.bl _))

/-! ### items -/
theorem ex_ixL {k : Nat} {m : MO} {ss : List S} (ha : EX c Γ M a (.p k) M1) (hb : EX c Γ M1 b (.d (.int i)) M2) (hm : M2[k]? = some m) (hl : LItems m ss) (hi : atI ss i = some s) (hs : PlainIx b := by exact fun _ _ => rfl) : EX c Γ M (.Subscript a b pos) s M2 := by
  constructor
  intro X H0 as0 o as σ H Q D q
  refine tE_of (pe_ix ix_list (pE X a) (pE X b) hs) ?_
  refine ha.run X H0 as0 o as σ H _ D fun u as1 H1 l1 D1 s1 => ?_
  refine hb.run X H0 as0 o as1 σ H1 _ (D.next l1 D1) fun v as2 H2 l2 D2 s2 => ?_
  cases sv_int s2
  cases s1 with
  | p ea =>
    obtain ⟨vs, h1, h2⟩ := hl.seq (D2.mem k m _ hm (pre_get l2.pre ea))
    obtain ⟨j, e1, e2, _⟩ := atI_get hi
    obtain ⟨v, ev, sv⟩ := h2.at e2
    rw [o.K]
    refine ⟨_, vs, i, v, rfl, rfl, h1, ?_, q v as2 H2 (l1.trans l2) D2 sv⟩
    unfold atI at hi ⊢
    rw [← h2.length]
    cases hx : ixN ss.length i with
    | none => rw [hx] at hi; cases hi
    | some j' =>
      rw [hx] at hi
      have hi' : ss[j']? = some s := hi
      obtain ⟨v', ev', sv'⟩ := h2.at hi'
      have : seqIndex? i ss.length = some j' := (ixN_seq hx).1
      rw [e1] at this
      cases this
      show vs[j]? = some v
      exact ev
theorem ex_ixT {x : S} {ss : List S} (ha : EX c Γ M a x M1) (hb : EX c Γ M1 b (.d (.int i)) M2) (hl : Items x ss) (hi : atI ss i = some s) (hs : PlainIx b := by exact fun _ _ => rfl) : EX c Γ M (.Subscript a b pos) s M2 := by
  constructor
  intro X H0 as0 o as σ H Q D q
  refine tE_of (pe_ix ix_tup (pE X a) (pE X b) hs) ?_
  refine ha.run X H0 as0 o as σ H _ D fun u as1 H1 l1 D1 s1 => ?_
  refine hb.run X H0 as0 o as1 σ H1 _ (D.next l1 D1) fun v as2 H2 l2 D2 s2 => ?_
  cases sv_int s2
  obtain ⟨p, vs, rfl, h1, h2⟩ := hl.sv (s1.le l2)
  obtain ⟨j, e1, e2, _⟩ := atI_get hi
  obtain ⟨v, ev, sv⟩ := h2.at e2
  rw [o.K]
  refine ⟨_, vs, i, v, rfl, rfl, .inl h1, ?_, q v as2 H2 (l1.trans l2) D2 sv⟩
  unfold atI at hi ⊢
  rw [← h2.length]
  cases hx : ixN ss.length i with
  | none => rw [hx] at hi; cases hi
  | some j' =>
    have : seqIndex? i ss.length = some j' := (ixN_seq hx).1
    rw [e1] at this
    cases this
    show vs[j]? = some v
    exact ev
end
end DL

namespace DL
open PySem PySem.Spec PyProof.Rows L2

/-! ### comprehensions -/
abbrev cB (c : Cs) (scope : Scope) : Cs := { c with sc := relS scope c.sc, own := fun x => scope.names.lookup x == some .cell, px := fun _ _ => True }
theorem okB {c : Cs} {X : Cx} {scope : Scope} {own : List (Str × Nat)} {H0 : Hp} {as0 : List Addr} (o : OkE c X H0 as0) (ok : BlkOk c.N c.sc scope own) (s : Shared) (H : Hp) (C : Addr) (cl : List (Str × Addr)) (fp : List Addr) : OkE (cB c scope) (Cx.blk X s H scope (compEnvC scope cl C X.env) fp) H0 as0 :=
  ⟨⟨o.P, o.w, o.K, o.mg, o.base, o.N, (by show relS scope X.env.scope = relS scope c.sc; rw [o.sc]), o.calm, o.room, o.gd, o.nd, ok.kind, own_never, fun x h => h⟩, o.ent, trivial⟩
/-- the tests of a comprehension: none, or one -/
def EI (c : Cs) (Γ : Gm) (M : Sto) (ifs : List Expr) (q : Bool) (M' : Sto) : Prop := (ifs = [] ∧ q = true ∧ M' = M) ∨ ∃ t, ifs = [t] ∧ ET c Γ M t q M'
theorem ei_nil {c : Cs} {Γ : Gm} {M : Sto} : EI c Γ M [] true M := .inl ⟨rfl, rfl, rfl⟩
theorem ei_one {c : Cs} {Γ : Gm} {M M' : Sto} {t : Expr} {q : Bool} (h : ET c Γ M t q M') : EI c Γ M [t] q M' := .inr ⟨t, rfl, h⟩
def tFm (X : Cx) (scope : Scope) : List Expr → TT
  | [] => tYes
  | t :: _ => fun σ H Q => ∀ (s : Shared) (H' : Hp) (C : Addr) (cl : List (Str × Addr)) (fp : List Addr), tT (Cx.blk X s H' scope (compEnvC scope cl C X.env) fp) t σ H Q
theorem pFm {X : Cx} {scope : Scope} {ifs : List Expr} (h : ifs.length ≤ 1) (s : Shared) (H' : Hp) (C : Addr) (cl : List (Str × Addr)) (fp : List Addr) : PTs (Cx.blk X s H' scope (compEnvC scope cl C X.env) fp) ifs (tFm X scope ifs) := by
  match ifs, h with
  | [], _ => exact pts_nil
  | [t], _ => exact pts_one ⟨fun pins s2 σ H Q I q => q s H' C cl fp pins s2 I⟩
  | _ :: _ :: _, h => exact absurd h (by simp)
def tGm (X : Cx) (scope : Scope) (tg : Expr) : TG := fun v σ H Q => ∀ (s : Shared) (H' : Hp) (C : Addr) (cl : List (Str × Addr)) (fp : List Addr), tG (Cx.blk X s H' scope (compEnvC scope cl C X.env) fp) tg v σ H Q
def tEm (X : Cx) (scope : Scope) (e : Expr) : TE := fun σ H Q => ∀ (s : Shared) (H' : Hp) (C : Addr) (cl : List (Str × Addr)) (fp : List Addr), tE (Cx.blk X s H' scope (compEnvC scope cl C X.env) fp) e σ H Q
def wipeG : Gm → List Nat → Gm
  | Γ, [] => Γ
  | Γ, v :: vs => (wipeG Γ vs).set v none
theorem wipeG_len (Γ : Gm) : ∀ vs, (wipeG Γ vs).length = Γ.length
  | [] => rfl
  | v :: vs => by unfold wipeG; rw [List.length_set, wipeG_len Γ vs]
theorem wipeG_at {Γ : Gm} {i : Nat} {s : S} : ∀ {vs : List Nat}, (wipeG Γ vs)[i]? = some (some s) → Γ[i]? = some (some s) ∧ i ∉ vs
  | [], h => ⟨h, by simp⟩
  | v :: vs, h => by
    unfold wipeG at h
    by_cases hi : v = i
    · subst hi
      by_cases hv : v < (wipeG Γ vs).length
      · rw [List.getElem?_set_self hv] at h; cases h
      · rw [List.getElem?_eq_none (by simpa using hv)] at h; cases h
    · rw [List.getElem?_set_ne hi] at h
      obtain ⟨h1, h2⟩ := wipeG_at h
      exact ⟨h1, by simp only [List.mem_cons, not_or]; exact ⟨fun e => hi e.symm, h2⟩⟩
theorem wipe_at {σ : L2.St} {i : Nat} : ∀ {vs : List Nat}, i ∉ vs → (wipe σ vs)[i]? = σ[i]?
  | [], _ => rfl
  | v :: vs, h => by
    unfold wipe
    simp only [List.mem_cons, not_or] at h
    rw [List.getElem?_set_ne (fun e => h.1 e.symm)]
    exact wipe_at h.2
theorem Den.wipe {K : PySem.W.Frag} {T : Tb} {H0 H : Hp} {as0 as : List Addr} {σ : L2.St} {Γ : Gm} {M : Sto} (D : Den K T H0 as0 Γ M as σ H) (vs : List Nat) : Den K T H0 as0 (wipeG Γ vs) M as (L2.wipe σ vs) H :=
  ⟨D.m, by rw [L2.wipe_length, wipeG_len]; exact D.len, fun i s e => by
    obtain ⟨h1, h2⟩ := wipeG_at e
    obtain ⟨v, e1, e2⟩ := D.loc i s h1
    exact ⟨v, by rw [wipe_at h2]; exact e1, e2⟩⟩
def NxtM (n : Nat) (P : Sto → Prop) : Sto → Prop := fun M => ∃ js M', Keep n js M M' ∧ P M'
theorem pick_pre {as as' : List Addr} {n : Nat} {js : List Nat} (h : as <+: as') (hn : as.length = n) : as <+: pick as' n js := by
  obtain ⟨t, rfl⟩ := h
  unfold pick
  subst hn
  rw [List.take_append_of_le_length (Nat.le_refl _), List.take_of_length_le (Nat.le_refl _)]
  exact List.prefix_append _ _
theorem wipe_set {σ : L2.St} {i : Nat} {v : Option V} : ∀ {vs : List Nat}, i ∈ vs → L2.wipe (σ.set i v) vs = L2.wipe σ vs
  | [], h => by cases h
  | w :: vs, h => by
    unfold L2.wipe
    by_cases e : i = w
    · subst e
      by_cases hm : i ∈ vs
      · rw [wipe_set hm]
      · clear h
        have : ∀ vs : List Nat, i ∉ vs → L2.wipe (σ.set i v) vs = (L2.wipe σ vs).set i v := fun vs => by
          induction vs with
          | nil => intro _; rfl
          | cons a vs ih =>
            intro hn
            simp only [List.mem_cons, not_or] at hn
            unfold L2.wipe
            rw [ih hn.2, List.set_comm _ _ hn.1]
        rw [this vs hm, List.set_set]
    · have hm : i ∈ vs := by
        rcases List.mem_cons.mp h with z | z
        · exact absurd z e
        · exact z
      rw [wipe_set hm]
/-- a target of a block takes s: the other slots stay -/
structure GW (c : Cs) (vs : List Nat) (Γ : Gm) (M : Sto) (tg : Expr) (s : S) (Γ' : Gm) : Prop where
  run : ∀ X H0 as0, OkE c X H0 as0 → ∀ as σ H v Q, Den c.K c.T H0 as0 Γ M as σ H → SV c.K H as s v → (∀ σ', Den c.K c.T H0 as0 Γ' M as σ' H → L2.wipe σ' vs = L2.wipe σ vs → Q σ' H) → tG X tg v σ H Q
structure GWs (c : Cs) (vs : List Nat) (Γ : Gm) (M : Sto) (tg : List Expr) (s : List S) (Γ' : Gm) : Prop where
  run : ∀ X H0 as0, OkE c X H0 as0 → ∀ as σ H v Q, Den c.K c.T H0 as0 Γ M as σ H → SVs c.K H as s v → (∀ σ', Den c.K c.T H0 as0 Γ' M as σ' H → L2.wipe σ' vs = L2.wipe σ vs → Q σ' H) → tGs X tg v σ H Q
section
variable {c : Cs} {Γ Γ' Γ1 Γ2 : Gm} {M M' M1 M2 M3 : Sto} {e a b tg iter elt : Expr} {r x y z s : S} {pos : Pos} {N : Nd} {ifs : List Expr} {scope : Scope} {own : List (Str × Nat)} {vs : List Nat}
theorem gw_name (i : Nat) {v : Str} (hm : i ∈ vs := by decide) (hi : c.N[i]? = some v := by rfl) (hl : Loc c.sc v := by first | exact Or.inl rfl | exact Or.inr rfl) (hf : c.own v = true ∨ c.sc.names.lookup v = some .local := by first | exact Or.inl rfl | exact Or.inr rfl) : GW c vs Γ M (.Name v pos) s (Γ.set i (some s)) := by
  constructor
  intro X H0 as0 o as σ H v Q D r k
  refine tG_of (pg_name (i := i) o.nd' (by rw [o.N]; exact hi) (by rw [o.sc]; exact hl) (fn_ok o hf)) ?_
  exact k _ (D.set r) (wipe_set hm)
theorem gws_nil : GWs c vs Γ M [] [] Γ := by
  constructor
  intro X H0 as0 o as σ H v Q D r k
  cases r
  exact tGs_of pgs_nil ⟨rfl, k σ D rfl⟩
theorem gws_cons {tgs : List Expr} {ss : List S} (h1 : GW c vs Γ M tg s Γ1) (h2 : GWs c vs Γ1 M tgs ss Γ2) (hs : ∀ env, (assignEach (tg :: tgs) env).map (·.2) = assign tg env :: (assignEach tgs env).map (·.2) := by intro _; rfl) : GWs c vs Γ M (tg :: tgs) (s :: ss) Γ2 := by
  constructor
  intro X H0 as0 o as σ H v Q D r k
  cases r with
  | cons a b =>
    refine tGs_of (pgs_cons (pG X tg) (pGs X tgs) (hs _)) ⟨_, _, rfl, ?_⟩
    refine h1.run X H0 as0 o as σ H _ _ D a fun σ1 D1 w1 => ?_
    exact h2.run X H0 as0 o as σ1 H _ _ D1 b fun σ2 D2 w2 => k σ2 D2 (w2.trans w1)
theorem gw_tup {es : List Expr} {k0 : Nat} {ss : List S} (hi : Items s ss) (h : GWs c vs Γ M es ss Γ1) (hn : ∀ env, (assignEach es env).length = ss.length := by intro _; rfl) (hst : ∀ env, (assignEach es env).findIdx? (·.1) = none := by intro _; rfl) : GW c vs Γ M (.Tuple es k0 pos) s Γ1 := by
  constructor
  intro X H0 as0 o as σ H v Q D r k
  obtain ⟨a, vs, rfl, e, f⟩ := hi.sv r
  refine tG_of (pg_tup o.calm (pGs X es) (hn _) (hst _)) ⟨a, vs, rfl, (.inl e), f.length.symm, ?_⟩
  exact h.run X H0 as0 o as σ H _ _ D f k

/-- what is wanted of one turn: from the store at its start, by the item s -/
def Turn1 (c : Cs) (vs : List Nat) (Γ : Gm) (tg : Expr) (ifs : List Expr) (elt : Expr) (d : Nat) (s : S) (M : Sto) (P : Sto → Prop) : Prop :=
  ∃ Γ1, GW c vs (wipeG Γ vs) M tg s Γ1 ∧ ∃ q M2, EI c Γ1 M ifs q M2 ∧ (q = true → ∃ r M3, EX c Γ1 M2 elt r M3 ∧ ∃ acc, M3[d]? = some (.lst acc) ∧ acc.length < 1000000 ∧ NxtM M.length P (M3.set d (.lst (acc ++ [r])))) ∧ (q = false → NxtM M.length P M2)
theorem wipe_in {σ : L2.St} {i : Nat} : ∀ {vs : List Nat}, i ∈ vs → i < σ.length → (L2.wipe σ vs)[i]? = some none
  | [], h, _ => by cases h
  | v :: vs, h, hl => by
    unfold L2.wipe
    by_cases e : v = i
    · subst e
      exact List.getElem?_set_self (by rw [L2.wipe_length]; exact hl)
    · rw [List.getElem?_set_ne e]
      rcases List.mem_cons.mp h with z | z
      · exact absurd z.symm e
      · exact wipe_in z hl
theorem wipe_wipe (σ : L2.St) (vs : List Nat) : L2.wipe (L2.wipe σ vs) vs = L2.wipe σ vs := by
  refine List.ext_getElem? fun i => ?_
  by_cases hl : i < σ.length
  · by_cases h : i ∈ vs
    · rw [wipe_in h (by rw [L2.wipe_length]; exact hl), wipe_in h hl]
    · rw [wipe_at h]
  · rw [List.getElem?_eq_none (by rw [L2.wipe_length, L2.wipe_length]; omega), List.getElem?_eq_none (by rw [L2.wipe_length]; omega)]
theorem ei_run {X : Cx} {q : Bool} {H0 : Hp} {as0 : List Addr} (o : OkE c X H0 as0) (ok : BlkOk c.N c.sc scope own) (h : EI (cB c scope) Γ M ifs q M1) {as σ H} {Q : Bool → Hp → Prop} (d : Den c.K c.T H0 as0 Γ M as σ H) (k : ∀ as' H', Le as H as' H' → DenM c.K c.T H0 as0 M1 as' H' → Q q H') : tFm X scope ifs σ H Q := by
  rcases h with ⟨rfl, rfl, rfl⟩ | ⟨t, rfl, h⟩
  · exact k as H (Le.refl _ _) d.m
  · intro s0 H' C cl fp
    exact h.run _ H0 as0 (okB o ok s0 H' C cl fp) as σ H Q d k
/-- the reading's turns, by an invariant over the store -/
theorem lc_turns {n : Nat} {G : Sto → Prop} {it : Nat → S} {X : Cx} {H0 H1 : Hp} {as0 as1 : List Addr} {σ : L2.St} {J : It} {Qd : Addr → Hp → Prop} {D : Addr} (o : OkE c X H0 as0) (ok : BlkOk c.N c.sc scope own)
    (hif : ifs.length ≤ 1) (d : Den c.K c.T H0 as0 Γ M1 as1 σ H1) (w : WalkD c.K c.T H0 as0 J n as1 H1 G it) (hD : H1 D = none) (I : Nat → Sto → Prop) (h0 : I 0 (M1 ++ [.lst []])) (hG : ∀ k M, k ≤ n → I k M → G M)
    (hs : ∀ k M, k < n → I k M → Turn1 (cB c scope) (own.map (·.2)) Γ tg ifs elt M1.length (it k) M (I (k + 1)))
    (hd : ∀ M as2 H2, I n M → Le as1 H1 as2 H2 → DenM c.K c.T H0 as0 M as2 H2 → as2[M1.length]? = some D → Qd D H2) :
    ∃ W : Nat → Nat → Hp → Prop, (∃ m, W 0 m (upd H1 D (.lst []))) ∧ ∀ i m H, W i m H → (J.stop i H ∧ Qd D H) ∨ (J.go i H ∧ ∃ Nx : Hp → Prop, (∀ H', Nx H' → ∃ m', m' < m ∧ W (i + 1) m' H') ∧ ∀ x H', J.yld i H x H' →
      tGm X scope tg x (L2.wipe σ (own.map (·.2))) H' fun σ2 H2 => L2.wipe σ2 (own.map (·.2)) = L2.wipe σ (own.map (·.2)) ∧ tFm X scope ifs σ2 H2 fun b H3 =>
          if b = true then tEm X scope elt σ2 H3 fun y H4 => ∃ acc, H4 D = some (.lst acc) ∧ acc.length < sizeLine ∧ Nx (upd H4 D (.lst (acc ++ [y]))) else Nx H3) := by
  have hl1 : as1.length = M1.length := d.m.len
  refine ⟨fun i m H' => m = n - i ∧ i ≤ n ∧ ∃ M2 as2, Le as1 H1 as2 H' ∧ DenM c.K c.T H0 as0 M2 as2 H' ∧ I i M2 ∧ as2[M1.length]? = some D, ⟨n, by simp, Nat.zero_le _, M1 ++ [.lst []], as1 ++ [D], le_new hD, d.m.push hD no_lst (m := .lst []) ⟨[], upd_same, .nil⟩ no_oth, h0, by rw [← hl1, List.getElem?_append_right (Nat.le_refl _)]; simp⟩, ?_⟩
  rintro i m H2 ⟨rfl, hle, M2, as2, l2, d2, i2, eD⟩
  have g2 := hG i M2 hle i2
  by_cases hlt : i < n
  · refine .inr ⟨w.go i as2 H2 M2 hlt l2 d2 g2, fun H' => ∃ M3 as3, Le as1 H1 as3 H' ∧ DenM c.K c.T H0 as0 M3 as3 H' ∧ I (i + 1) M3 ∧ as3[M1.length]? = some D, ?_, fun x H3 y => ?_⟩
    · rintro H' ⟨M3, as3, q⟩
      exact ⟨n - (i + 1), by omega, rfl, hlt, M3, as3, q⟩
    · obtain ⟨sm, sx⟩ := w.yld i as2 H2 M2 x H3 hlt l2 d2 g2 y
      obtain ⟨Γ1, gw, q, M3, ei, ht, hf⟩ := hs i M2 hlt i2
      have dw : Den c.K c.T H0 as0 (wipeG Γ (own.map (·.2))) M2 as2 (L2.wipe σ (own.map (·.2))) H2 := (d.wipe _).next l2 d2
      have l3 : Le as2 H2 as2 H3 := .h (Same.tk sm)
      have dw3 := dw.next l3 (d2.grow sm)
      intro s0 H' C cl fp
      refine gw.run _ H0 as0 (okB o ok s0 H' C cl fp) as2 _ H3 x _ dw3 sx fun σ4 d4 w4 => ⟨w4.trans ?_, ?_⟩
      · exact wipe_wipe _ _
      refine ei_run o ok ei d4 fun as5 H5 l5 d5 => ?_
      have nxt : ∀ M6 as6 H6, NxtM M2.length (I (i + 1)) M6 → Le as5 H5 as6 H6 → DenM c.K c.T H0 as0 M6 as6 H6 → ∃ M3 as3, Le as1 H1 as3 H6 ∧ DenM c.K c.T H0 as0 M3 as3 H6 ∧ I (i + 1) M3 ∧ as3[M1.length]? = some D := by
        rintro M6 as6 H6 ⟨js, M7, kp, i7⟩ l6 d6
        have lt : Le as2 H2 as6 H6 := (l3.trans l5).trans l6
        have pp := pick_pre (js := js) lt.pre d2.len
        exact ⟨M7, _, ⟨l2.pre.trans pp, (l2.trans lt).tk⟩, d6.keep d2.le0 kp, i7, pre_get pp eD⟩
      cases q with
      | false =>
        rw [if_neg Bool.false_ne_true]
        exact nxt M3 as5 H5 (hf rfl) (Le.refl _ _) d5
      | true =>
        rw [if_pos rfl]
        obtain ⟨r, M4, ex, acc, e4, hlen, n4⟩ := ht rfl
        intro s1 H'' C1 cl1 fp1
        refine ex.run _ H0 as0 (okB o ok s1 H'' C1 cl1 fp1) as5 σ4 H5 _ (d4.next l5 d5) fun y as6 H6 l6 d6 s6 => ?_
        have eD6 : as6[M1.length]? = some D := pre_get ((l3.trans l5).trans l6).pre eD
        obtain ⟨vs, hv, sv⟩ := d6.mem _ _ _ e4 eD6
        refine ⟨vs, hv, by rw [← sv.length]; exact Nat.lt_of_lt_of_le hlen (by decide), ?_⟩
        have hk : M1.length < M4.length := (List.getElem?_eq_some_iff.mp e4).1
        have t : Tk H6 (upd H6 D (.lst (vs ++ [y]))) := Tk.mut hv (fun z => by rcases z with ⟨_, z⟩ | ⟨_, _, z⟩ <;> cases z)
        exact nxt _ as6 _ n4 ⟨l6.pre, l6.tk.trans t⟩ (d6.write hk eD6 hv no_lst ⟨_, upd_same, (sv.app (.cons s6 .nil)).le (.h t)⟩ no_oth)
  · have e : i = n := by omega
    subst e
    exact .inl ⟨w.stop as2 H2 M2 l2 d2 g2, hd M2 as2 H2 i2 l2 d2 eD⟩
/-- [elt for tg in iter if ..] -/
theorem ex_lc {n : Nat} {G : Sto → Prop} {it : Nat → S} (own : List (Str × Nat)) (hi : IX c Γ M tg iter n G it M1) (I : Nat → Sto → Prop) (h0 : I 0 (M1 ++ [.lst []])) (hG : ∀ k M, k ≤ n → I k M → G M)
    (hs : ∀ k M, k < n → I k M → Turn1 (cB c scope) (own.map (·.2)) Γ tg ifs elt M1.length (it k) M (I (k + 1))) (hd : ∀ M, I n M → M = M2)
    (ok : blkC c.N c.sc scope own = true := by decide +kernel) (hif : ifs.length ≤ 1 := by decide) (hf : ∀ env x, foldedSetIterable iter env x = pure x := by intro _ _; rfl) : EX c Γ M (.ListComp elt [⟨tg, iter, ifs, 0⟩] scope pos) (.p M1.length) M2 := by
  constructor
  intro X H0 as0 o as σ H Q D k
  have ok' := blkOk_by ok
  refine tE_of (pe_lc o.calm o.nd' (pI X tg iter) (g := tGm X scope tg) (tt := tFm X scope ifs) (te := tEm X scope elt) (own := own) (by rw [o.N, o.sc]; exact ok') (fun s H C cl fp => ⟨fun pins s2 σ H v u Q I r h => h s _ C cl fp pins s2 u I r⟩) (pFm hif) (fun s H C cl fp => ⟨fun pins s2 σ H Q I h => h s _ C cl fp pins s2 I⟩) (hf _)) ?_
  refine hi.run X H0 as0 o as σ H _ D fun J as1 H1 l1 d1 w Dl hD => ?_
  exact lc_turns (Qd := fun D H2 => Q (.ref D) H2) o ok' hif (D.next l1 d1) w hD I h0 hG hs fun M3 as2 H2 i2 l2 d2 eD => k _ as2 H2 (l1.trans l2) (hd M3 i2 ▸ d2) (.p eD)
/-- name = [..] on one line -/
theorem sx_setLc {n : Nat} {G : Sto → Prop} {it : Nat → S} {spos py : Pos} {y : Str} (i : Nat) (own : List (Str × Nat)) (hi : IX c Γ M tg iter n G it M1) (I : Nat → Sto → Prop) (h0 : I 0 (M1 ++ [.lst []])) (hG : ∀ k M, k ≤ n → I k M → G M)
    (hs : ∀ k M, k < n → I k M → Turn1 (cB c scope) (own.map (·.2)) Γ tg ifs elt M1.length (it k) M (I (k + 1))) (hd : ∀ M, I n M → N.nx (Γ.set i (some (.p M1.length))) M)
    (hy : c.N[i]? = some y := by rfl) (hyl : c.sc.names.lookup y = some .local := by rfl) (hsw : ∀ env, env.scope = c.sc → swapsWith (.ListComp elt [⟨tg, iter, ifs, 0⟩] scope pos) (some (.Name y py)) spos.line env = pure true)
    (ok : blkC c.N c.sc scope own = true := by decide +kernel) (hif : ifs.length ≤ 1 := by decide) (hf : ∀ env x, foldedSetIterable iter env x = pure x := by intro _ _; rfl) : SX c Γ M (.Assign [.Name y py] (.ListComp elt [⟨tg, iter, ifs, 0⟩] scope pos) spos) N := by
  constructor
  intro X H0 as0 o as σ H D d f
  have ok' := blkOk_by ok
  refine tS_of (ps_setLc (i := i) o.calm o.nd' (by rw [o.N]; exact hy) (by rw [o.sc]; exact hyl) (hsw _ o.sc) (pI X tg iter) (g := tGm X scope tg) (tt := tFm X scope ifs) (te := tEm X scope elt) (own := own) (by rw [o.N, o.sc]; exact ok') (fun s H C cl fp => ⟨fun pins s2 σ H v u Q I r h => h s _ C cl fp pins s2 u I r⟩) (pFm hif) (fun s H C cl fp => ⟨fun pins s2 σ H Q I h => h s _ C cl fp pins s2 I⟩) (hf _)) ?_
  refine hi.run X H0 as0 o as σ H _ d fun J as1 H1 l1 d1 w Dl hD => ?_
  refine lc_turns (Qd := fun Dl H2 => D.nx (σ.set i (some (.ref Dl))) H2) o ok' hif (d.next l1 d1) w hD I h0 hG hs fun M3 as2 H2 i2 l2 d2 eD => ?_
  exact f.nx _ M3 as2 _ H2 (hd M3 i2) (l1.trans l2) ((d.next (l1.trans l2) d2).set (.p eD))
end
end DL

namespace DL
open PySem PySem.Spec PyProof.Rows L2

/-! ### built-ins -/
/-- names of built-ins that the module leaves alone -/
def Blt (m : Ms) (x : Str) : Prop := m.mg x = none
section
variable {c : Cs} {Γ : Gm} {M M' M1 M2 M3 : Sto} {e a b o : Expr} {es : List Expr} {r x y z s : S} {rs : List S} {pos p apos : Pos} {i j : Int} {k : Nat} {f : Str} {N : Nd}
theorem ex_callB {id : String} (hc : CS c (.builtin id) rs M1 r M2) (ha : EA c Γ M (e :: es) rs M1) (hm : c.mg f = none) (hv : bootBuiltins f = some (.builtin id)) (hg : c.sc.names.lookup f = some gI := by rfl) (hn : f ≠ "__name__" := by decide) (hdb : (f == ("__debug__" : Str)) = false := by decide)
    (he : ∀ env, starEach (e :: es) env = (false, eval e env) :: starEach es env := by intro _; rfl) (hpl : ∀ env, (backTo pos (starEach es env)).any (·.1) = false := by intro _; rfl) : EX c Γ M (.Call (.Name f p) (e :: es) [] pos) r M2 := by
  constructor
  intro X H0 as0 o as σ H Q D k
  obtain ⟨R, hR, hq⟩ := hc.run X H0 as0 o
  refine tE_of (pe_callB hR (gl_ok o hg) (by rw [o.mg]; exact hm) hv (pA X _) hn hdb (he _) (hpl _)) ?_
  refine ha.run X H0 as0 o as σ H _ D fun vs as1 H1 l1 D1 s1 => ?_
  exact hq as1 H1 vs Q D1 s1 fun z as2 H2 l2 D2 s2 => k z as2 H2 (l1.trans l2) D2 s2
theorem ex_callTy {id : String} (hc : CS c (.type id) rs M1 r M2) (ha : EA c Γ M (e :: es) rs M1) (hm : c.mg f = none) (hv : bootBuiltins f = some (.type id)) (hg : c.sc.names.lookup f = some gI := by rfl) (hn : f ≠ "__name__" := by decide) (hdb : (f == ("__debug__" : Str)) = false := by decide)
    (he : ∀ env, starEach (e :: es) env = (false, eval e env) :: starEach es env := by intro _; rfl) (hpl : ∀ env, (backTo pos (starEach es env)).any (·.1) = false := by intro _; rfl) : EX c Γ M (.Call (.Name f p) (e :: es) [] pos) r M2 := by
  constructor
  intro X H0 as0 o as σ H Q D k
  obtain ⟨R, hR, hq⟩ := hc.run X H0 as0 o
  refine tE_of (pe_callTy hR (gl_ok o hg) (by rw [o.mg]; exact hm) hv (pA X _) hn hdb (he _) (hpl _)) ?_
  refine ha.run X H0 as0 o as σ H _ D fun vs as1 H1 l1 D1 s1 => ?_
  exact hq as1 H1 vs Q D1 s1 fun z as2 H2 l2 D2 s2 => k z as2 H2 (l1.trans l2) D2 s2
theorem cs_of {g : Value} (R : Cx → List V → Hp → VK → Prop) (hR : ∀ X, OkX c X → CallR X g (R X))
    (hq : ∀ X H0 as0, OkE c X H0 as0 → ∀ as H vs (Q : VK), DenM c.K c.T H0 as0 M as H → SVs c.K H as rs vs → (∀ z as' H', Le as H as' H' → DenM c.K c.T H0 as0 M' as' H' → SV c.K H' as' r z → Q z H') → R X vs H Q) : CS c g rs M r M' :=
  ⟨fun X H0 as0 o => ⟨R X, hR X o, hq X H0 as0 o⟩⟩
/-- how many items -/
inductive Ln (M : Sto) : S → Nat → Prop
  | lst {k : Nat} {m : MO} {ss : List S} : M[k]? = some m → LItems m ss → Ln M (.p k) ss.length
  | tup {s : S} {ss : List S} : Items s ss → Ln M s ss.length
  | str {x : Str} : x.length ≤ 1000000 → Ln M (.d (.str x)) x.length
theorem sv1 {K : PySem.W.Frag} {H : Hp} {as : List Addr} {vs : List V} (h : SVs K H as [s] vs) : ∃ v, vs = [v] ∧ SV K H as s v := by
  cases h with
  | cons a b => cases b; exact ⟨_, rfl, a⟩
theorem sv2 {K : PySem.W.Frag} {H : Hp} {as : List Addr} {vs : List V} {t : S} (h : SVs K H as [s, t] vs) : ∃ v w, vs = [v, w] ∧ SV K H as s v ∧ SV K H as t w := by
  cases h with
  | cons a b =>
    obtain ⟨w, rfl, h⟩ := sv1 b
    exact ⟨_, w, rfl, a, h⟩
theorem cs_len {n : Nat} (h : Ln M s n) : CS c (.builtin "len") [s] M (.d (.int n)) M :=
  cs_of (fun X xs H Q => ∃ x n, xs = [x] ∧ LenV X.K x H n ∧ Q (.int n) H) (fun X o => call_len) fun X H0 as0 o as H vs Q D sv q => by
    obtain ⟨v, rfl, s1⟩ := sv1 sv
    refine ⟨v, n, rfl, ?_, q _ as H (Le.refl _ _) D (.d (.int _))⟩
    rw [o.K]
    cases h with
    | lst e1 e2 =>
      cases s1 with
      | p ea =>
        obtain ⟨us, h1, h2⟩ := e2.seq (D.mem _ _ _ e1 ea)
        exact .inl ⟨us, h1, h2.length⟩
    | tup e1 =>
      obtain ⟨a, us, rfl, h1, h2⟩ := e1.sv s1
      exact .inr ⟨us, (.inl h1), h2.length⟩
    | str hl =>
      cases sv_str s1
      exact ⟨Nat.le_trans hl (by decide), rfl⟩
theorem cs_sum {ns : List Int} {m : MO} (hm : M[k]? = some m) (hl : LItems m (ns.map fun n => S.d (.int n))) : CS c (.builtin "sum") [.p k] M (.d (.int ns.sum)) M :=
  cs_of (fun X => rSum X.K) (fun X o => cr_sum o.calm) fun X H0 as0 o as H vs Q D sv q => by
    obtain ⟨v, rfl, s1⟩ := sv1 sv
    cases s1 with
    | p ea =>
      obtain ⟨us, h1, h2⟩ := hl.seq (D.mem _ _ _ hm ea)
      rw [o.K]
      have hu : us = ns.map V.int := by
        have : (ns.map fun n => S.d (.int n)) = (ns.map PyData.int).map S.d := by rw [List.map_map]; rfl
        rw [this] at h2
        exact (SVs.data h2).ints
      subst hu
      exact ⟨_, ns, rfl, h1, q _ as H (Le.refl _ _) D (.d (.int _))⟩
/-- list(x) of a list, a tuple -/
inductive Sq (M : Sto) : S → List S → Prop
  | lst {k : Nat} {m : MO} {ss : List S} : M[k]? = some m → LItems m ss → Sq M (.p k) ss
  | tup {s : S} {ss : List S} : Items s ss → Sq M s ss
theorem cs_list {ss : List S} (h : Sq M s ss) : CS c (.type "list") [s] M (.p M.length) (M ++ [.lst ss]) :=
  cs_of (fun X xs H Q => ∃ p ys, xs = [.ref p] ∧ (SqL X.K H p ys ∨ SqT X.K H p ys) ∧ ∀ l, H l = none → Q (.ref l) (upd H l (.lst ys))) (fun X o => call_list_of) fun X H0 as0 o as H vs Q D sv q => by
    obtain ⟨v, rfl, s1⟩ := sv1 sv
    rw [o.K]
    cases h with
    | lst e1 e2 =>
      cases s1 with
      | p ea =>
        obtain ⟨us, h1, h2⟩ := e2.seq (D.mem _ _ _ e1 ea)
        exact ⟨_, us, rfl, .inl h1, fun l hl => new_obj D hl no_lst (mok_lst hl h2) no_oth q⟩
    | tup e1 =>
      obtain ⟨a, us, rfl, h1, h2⟩ := e1.sv s1
      exact ⟨_, us, rfl, .inr ((.inl h1)), fun l hl => new_obj D hl no_lst (mok_lst hl h2) no_oth q⟩
/-- tuple(x) of a list -/
theorem cs_tuple {ss : List S} {m : MO} (hm : M[k]? = some m) (hl : LItems m ss) : CS c (.type "tuple") [.p k] M (mkT ss) M :=
  cs_of (fun X xs H Q => ∃ p ys, xs = [.ref p] ∧ ((SqL X.K H p ys ∧ ∀ l, H l = none → Q (.ref l) (upd H l (.tup ys))) ∨ (SqT X.K H p ys ∧ Q (.ref p) H))) (fun X o => call_tuple_of) fun X H0 as0 o as H vs Q D sv q => by
    obtain ⟨v, rfl, s1⟩ := sv1 sv
    rw [o.K]
    cases s1 with
    | p ea =>
      obtain ⟨us, h1, h2⟩ := hl.seq (D.mem _ _ _ hm ea)
      exact ⟨_, us, rfl, .inl ⟨h1, fun l hl => new_tup D hl h2 q⟩⟩

/-! ### methods -/
/-- a method of a built-in type on a value and arguments -/
structure MS (c : Cs) (id : String) (x : S) (xs : List S) (M : Sto) (r : S) (M' : Sto) : Prop where
  run : ∀ X H0 as0, OkE c X H0 as0 → ∃ R : V → List V → Hp → VK → Prop, MtM X id R ∧ ∀ as H u vs (Q : VK), DenM c.K c.T H0 as0 M as H → SV c.K H as x u → SVs c.K H as xs vs → (∀ z as' H', Le as H as' H' → DenM c.K c.T H0 as0 M' as' H' → SV c.K H' as' r z → Q z H') → R u vs H Q
theorem ms_append {xs : List S} (hk : M[k]? = some (.lst xs)) (hl : xs.length < 1000000) : MS c "list.append" (.p k) [s] M (.d .none) (M.set k (.lst (xs ++ [s]))) := ⟨fun X H0 as0 o => ⟨rAppend, mt_append, fun as H u vs Q D su sv q => by
  obtain ⟨v, rfl, s1⟩ := sv1 sv
  cases su with
  | p ea =>
    obtain ⟨us, h1, h2⟩ := D.mem _ _ _ hk ea
    have hk' : k < M.length := (List.getElem?_eq_some_iff.mp hk).1
    refine ⟨_, us, v, rfl, rfl, h1, by rw [← h2.length]; exact Nat.lt_of_lt_of_le hl (by decide), ?_⟩
    have t : ∀ o, Tk H (upd H _ o) := fun o => Tk.mut h1 (fun z => by rcases z with ⟨_, z⟩ | ⟨_, _, z⟩ <;> cases z)
    exact q _ as _ (.h (t _)) (D.write hk' ea h1 no_lst ⟨_, upd_same, (h2.app (.cons s1 .nil)).le (.h (t _))⟩ no_oth) (.d .non)⟩⟩
theorem dropLast_sv {K : PySem.W.Frag} {H : Hp} {as : List Addr} {ss : List S} {vs : List V} (h : SVs K H as ss vs) : SVs K H as ss.dropLast vs.dropLast := by
  rw [List.dropLast_eq_take, List.dropLast_eq_take, h.length]
  exact h.take _
theorem ms_pop {xs : List S} (hk : M[k]? = some (.lst xs)) (hl : xs[xs.length - 1]? = some s) : MS c "list.pop" (.p k) [] M s (M.set k (.lst xs.dropLast)) := ⟨fun X H0 as0 o => ⟨rPop, mt_pop, fun as H u vs Q D su sv q => by
  cases sv
  cases su with
  | p ea =>
    obtain ⟨us, h1, h2⟩ := D.mem _ _ _ hk ea
    have hk' : k < M.length := (List.getElem?_eq_some_iff.mp hk).1
    obtain ⟨v, ev, sv⟩ := h2.at hl
    refine ⟨_, us, v, rfl, rfl, h1, by rw [← h2.length]; exact ev, ?_⟩
    have t : ∀ o, Tk H (upd H _ o) := fun o => Tk.mut h1 (fun z => by rcases z with ⟨_, z⟩ | ⟨_, _, z⟩ <;> cases z)
    exact q _ as _ (.h (t _)) (D.write hk' ea h1 no_lst ⟨_, upd_same, (dropLast_sv h2).le (.h (t _))⟩ no_oth) (sv.le (.h (t _)))⟩⟩
theorem ms_popAt {xs : List S} {n : Nat} (hk : M[k]? = some (.lst xs)) (hi : i = (n : Int)) (hl : xs[n]? = some s) (hx : xs.length ≤ 1000000) : MS c "list.pop" (.p k) [.d (.int i)] M s (M.set k (.lst (xs.eraseIdx n))) := ⟨fun X H0 as0 o => ⟨rPopAt, mt_popAt, fun as H u vs Q D su sv q => by
  obtain ⟨v, rfl, s1⟩ := sv1 sv
  cases sv_int s1
  cases su with
  | p ea =>
    obtain ⟨us, h1, h2⟩ := D.mem _ _ _ hk ea
    have hk' : k < M.length := (List.getElem?_eq_some_iff.mp hk).1
    obtain ⟨w, ew, sw⟩ := h2.at hl
    have hn := (List.getElem?_eq_some_iff.mp hl).1
    have hl' := h2.length
    refine ⟨_, us, i, n, w, rfl, rfl, h1, by omega, by omega, ?_, ew, ?_⟩
    · have : ixN us.length i = some n := by
        unfold ixN
        rw [if_pos (by omega), if_pos (by omega)]
        congr 1
        omega
      exact (ixN_seq this).1
    have t : ∀ o, Tk H (upd H _ o) := fun o => Tk.mut h1 (fun z => by rcases z with ⟨_, z⟩ | ⟨_, _, z⟩ <;> cases z)
    exact q _ as _ (.h (t _)) (D.write hk' ea h1 no_lst ⟨_, upd_same, (h2.erase n).le (.h (t _))⟩ no_oth) (sw.le (.h (t _)))⟩⟩
/-- the type of a method's object -/
inductive Tv (M : Sto) : S → String → Prop
  | lst {k : Nat} {m : MO} {ss : List S} : M[k]? = some m → LItems m ss → Tv M (.p k) "list"
  | str {x : Str} : Tv M (.d (.str x)) "str"
  | dk {k : Nat} {xs : List (Key × S)} : M[k]? = some (.dk xs) → Tv M (.p k) "dict"
  | dt {k : Nat} {xs : List (List Key × S)} : M[k]? = some (.dt xs) → Tv M (.p k) "dict"
theorem Tv.ty {K : PySem.W.Frag} {T' : Tb} {H0 H : Hp} {as0 as : List Addr} {T : String} {v : V} (h : Tv M s T) (D : DenM K T' H0 as0 M as H) (r : SV K H as s v) : tyV K T v H := by
  cases h with
  | lst e1 e2 => cases r with | p ea => obtain ⟨us, h1, _⟩ := e2.seq (D.mem _ _ _ e1 ea); exact .inl ⟨rfl, us, h1⟩
  | str => cases sv_str r; exact rfl
  | dk e1 => cases r with | p ea => obtain ⟨us, h1, _⟩ := D.mem _ _ _ e1 ea; exact .inr (.inr (.inl ⟨rfl, .inl ⟨us, h1⟩⟩))
  | dt e1 => cases r with | p ea => obtain ⟨us, h1, _⟩ := D.mem _ _ _ e1 ea; exact .inr (.inr (.inl ⟨rfl, .inr ⟨us, h1⟩⟩))
theorem ex_meth {T : String} {m : Str} {id : String} (pa : PlainAttrs T) (slot : Slot T m id) (hty : typeOf (.builtin id) = pure (.type "method_descriptor")) (ho : EX c Γ M o x M1) (ht : Tv M1 x T) (ha : EA c Γ M1 (e :: es) rs M2) (hm : MS c id x rs M2 r M3)
    (hbase : ∀ env, attributeBase o m env (eval o env) = eval o env := by intro _; rfl)
    (hfew : ∀ env, ((backTo pos (starEach (e :: es) env)).all (fun x => !x.1) && (backToKw pos (keywordEach [] env)).all (fun x => x.1.isSome)
      && decide ((e :: es).length + ([] : List Keyword).length + (if ([] : List Keyword).isEmpty then 0 else 1) < 30)) = true := by intro _; rfl)
    (hline : (apos.endLine == pos.line) = true := by rfl) (he : ∀ env, starEach (e :: es) env = (false, eval e env) :: starEach es env := by intro _; rfl) (hpl : ∀ env, (backTo pos (starEach es env)).any (·.1) = false := by intro _; rfl) :
    EX c Γ M (.Call (.Attribute o m apos) (e :: es) [] pos) r M3 := by
  constructor
  intro X H0 as0 oo as σ H Q D k
  obtain ⟨R, hR, hq⟩ := hm.run X H0 as0 oo
  refine tE_of (pe_bm pa slot hty hR (pE X o) (pA X _) (hbase _) (hfew _) hline (he _) (hpl _)) ?_
  refine ho.run X H0 as0 oo as σ H _ D fun v as1 H1 l1 D1 s1 => ⟨by rw [oo.K]; exact ht.ty D1 s1, ?_⟩
  refine ha.run X H0 as0 oo as1 σ H1 _ (D.next l1 D1) fun vs as2 H2 l2 D2 s2 => ?_
  exact hq as2 H2 v vs Q D2 (s1.le l2) s2 fun z as3 H3 l3 D3 s3 => k z as3 H3 ((l1.trans l2).trans l3) D3 s3
theorem ex_meth0 {T : String} {m : Str} {id : String} (pa : PlainAttrs T) (slot : Slot T m id) (hty : typeOf (.builtin id) = pure (.type "method_descriptor")) (ho : EX c Γ M o x M1) (ht : Tv M1 x T) (hm : MS c id x [] M1 r M3)
    (hbase : ∀ env, attributeBase o m env (eval o env) = eval o env := by intro _; rfl) (hline : (apos.endLine == pos.line) = true := by rfl) : EX c Γ M (.Call (.Attribute o m apos) [] [] pos) r M3 := by
  constructor
  intro X H0 as0 oo as σ H Q D k
  obtain ⟨R, hR, hq⟩ := hm.run X H0 as0 oo
  refine tE_of (pe_bm0 pa slot hty hR (pE X o) (hbase _) hline) ?_
  refine ho.run X H0 as0 oo as σ H _ D fun v as1 H1 l1 D1 s1 => ⟨by rw [oo.K]; exact ht.ty D1 s1, ?_⟩
  exact hq as1 H1 v [] Q D1 s1 .nil fun z as3 H3 l3 D3 s3 => k z as3 H3 (l1.trans l3) D3 s3
theorem ex_append {xs : List S} (ho : EX c Γ M o (.p k) M1) (ha : EX c Γ M1 e s M2) (h1 : M1[k]? = some (.lst xs)) {ys : List S} (h2 : M2[k]? = some (.lst ys)) (hl : ys.length < 1000000) (hbase : ∀ env, attributeBase o "append" env (eval o env) = eval o env := by intro _; rfl)
    (hfew : ∀ env, ((backTo pos (starEach [e] env)).all (fun x => !x.1) && (backToKw pos (keywordEach [] env)).all (fun x => x.1.isSome) && decide (([e] : List Expr).length + ([] : List Keyword).length + (if ([] : List Keyword).isEmpty then 0 else 1) < 30)) = true := by intro _; rfl)
    (hline : (apos.endLine == pos.line) = true := by rfl) (he : ∀ env, starEach [e] env = (false, eval e env) :: starEach [] env := by intro _; rfl) : EX c Γ M (.Call (.Attribute o "append" apos) [e] [] pos) (.d .none) (M2.set k (.lst (ys ++ [s]))) :=
  ex_meth PySem.F.plainAttrs_list PySem.F.slot_list_append PySem.F.type_list_append ho (.lst h1 (show xs = xs from rfl)) (ea_cons ha ea_nil he) (ms_append h2 hl) hbase hfew hline he (fun _ => rfl)
theorem ex_pop {xs : List S} (ho : EX c Γ M o (.p k) M1) (h1 : M1[k]? = some (.lst xs)) (hl : xs[xs.length - 1]? = some s) (hbase : ∀ env, attributeBase o "pop" env (eval o env) = eval o env := by intro _; rfl)
    (hline : (apos.endLine == pos.line) = true := by rfl) : EX c Γ M (.Call (.Attribute o "pop" apos) [] [] pos) s (M1.set k (.lst xs.dropLast)) :=
  ex_meth0 PySem.F.plainAttrs_list PySem.F.slot_list_pop PySem.F.type_list_pop ho (.lst h1 (show xs = xs from rfl)) (ms_pop h1 hl) hbase hline
theorem ex_popAt {xs ys : List S} {n : Nat} (ho : EX c Γ M o (.p k) M1) (ha : EX c Γ M1 e (.d (.int i)) M2) (h1 : M1[k]? = some (.lst xs)) (h2 : M2[k]? = some (.lst ys)) (hi : i = (n : Int)) (hl : ys[n]? = some s) (hx : ys.length ≤ 1000000) (hbase : ∀ env, attributeBase o "pop" env (eval o env) = eval o env := by intro _; rfl)
    (hfew : ∀ env, ((backTo pos (starEach [e] env)).all (fun x => !x.1) && (backToKw pos (keywordEach [] env)).all (fun x => x.1.isSome) && decide (([e] : List Expr).length + ([] : List Keyword).length + (if ([] : List Keyword).isEmpty then 0 else 1) < 30)) = true := by intro _; rfl)
    (hline : (apos.endLine == pos.line) = true := by rfl) (he : ∀ env, starEach [e] env = (false, eval e env) :: starEach [] env := by intro _; rfl) : EX c Γ M (.Call (.Attribute o "pop" apos) [e] [] pos) s (M2.set k (.lst (ys.eraseIdx n))) :=
  ex_meth PySem.F.plainAttrs_list PySem.F.slot_list_pop PySem.F.type_list_pop ho (.lst h1 (show xs = xs from rfl)) (ea_cons ha ea_nil he) (ms_popAt h2 hi hl hx) hbase hfew hline he (fun _ => rfl)

/-! ### dicts -/
/-- a value is a key -/
def isKey : S → Key → Prop
  | .d (.int i), k => k = .inl i
  | .d (.str x), k => k = .inr x
  | _, _ => False
theorem isKey.kv {K : PySem.W.Frag} {H : Hp} {as : List Addr} {v : V} {q : Key} (h : isKey s q) (r : SV K H as s v) : v = kV q := by
  cases r with
  | d r =>
    cases r with
    | int i => cases (show q = _ from h); rfl
    | str x => cases (show q = _ from h); rfl
    | _ => exact h.elim
  | _ => exact h.elim
variable {κ : Type} [DecidableEq κ]
def sval (kvs : List (κ × S)) (k : κ) : Option S := (kvs.find? fun kv => decide (kv.1 = k)).map (·.2)
def sput (kvs : List (κ × S)) (k : κ) (v : S) : List (κ × S) :=
  if (kvs.any fun kv => decide (kv.1 = k)) = true then kvs.map (fun kv => if kv.1 = k then (kv.1, v) else kv) else kvs ++ [(k, v)]
theorem ksv_val {K : PySem.W.Frag} {H : Hp} {as : List Addr} {q : κ} : ∀ {ks : List (κ × S)} {vs : List (κ × V)}, KSV K H as ks vs → (∀ s, sval ks q = some s → ∃ v, valV vs q = some v ∧ SV K H as s v) ∧ (sval ks q = none → valV vs q = none)
  | _, _, .nil => ⟨fun s h => by simp [sval] at h, fun _ => rfl⟩
  | (k1, s1) :: ks, (k2, v2) :: vs, .cons h t => by
    obtain ⟨e, r⟩ := h
    cases (show k1 = k2 from e)
    have ih := ksv_val (q := q) t
    by_cases hk : k1 = q
    · refine ⟨fun s h => ?_, fun h => ?_⟩
      · simp [sval, List.find?_cons, hk] at h
        subst h
        exact ⟨v2, valV_pos hk, r⟩
      · simp [sval, List.find?_cons, hk] at h
    · have e1 : sval ((k1, s1) :: ks) q = sval ks q := by simp [sval, List.find?_cons, hk]
      rw [e1, valV_neg (p := (k1, v2)) hk]
      exact ih
theorem ksv_any {K : PySem.W.Frag} {H : Hp} {as : List Addr} {q : κ} : ∀ {ks : List (κ × S)} {vs : List (κ × V)}, KSV K H as ks vs → (ks.any fun kv => decide (kv.1 = q)) = (vs.any fun kv => decide (kv.1 = q))
  | _, _, .nil => rfl
  | (k1, s1) :: ks, (k2, v2) :: vs, .cons h t => by
    cases (show k1 = k2 from h.1)
    rw [List.any_cons, List.any_cons, ksv_any t]
theorem ksv_put {K : PySem.W.Frag} {H : Hp} {as : List Addr} {q : κ} {v : V} {ks : List (κ × S)} {vs : List (κ × V)} (h : KSV K H as ks vs) (r : SV K H as s v) : KSV K H as (sput ks q s) (putK vs q v) := by
  unfold sput putK
  rw [ksv_any h]
  split
  · have : ∀ {ks : List (κ × S)} {vs : List (κ × V)}, KSV K H as ks vs → KSV K H as (ks.map fun kv => if kv.1 = q then (kv.1, s) else kv) (vs.map fun kv => if kv.1 = q then (kv.1, v) else kv) := by
      intro ks vs h
      induction h with
      | nil => exact .nil
      | cons a b ih =>
        rw [List.map_cons, List.map_cons]
        refine .cons ?_ ih
        rename_i p1 p2 _ _
        obtain ⟨e, r2⟩ := a
        by_cases hk : p1.1 = q
        · rw [if_pos hk, if_pos (e ▸ hk)]
          exact ⟨e, r⟩
        · rw [if_neg hk, if_neg (fun z => hk (e.trans z))]
          exact ⟨e, r2⟩
    exact this h
  · exact Paired.app h (.cons ⟨rfl, r⟩ .nil)
/-- d[k] -/
theorem ex_dget {kvs : List (Key × S)} {q : Key} (ha : EX c Γ M a (.p k) M1) (hb : EX c Γ M1 b y M2) (hk : M2[k]? = some (.dk kvs)) (hy : isKey y q) (hv : sval kvs q = some s) (hs : NoSl b := by exact fun _ _ => rfl) : EX c Γ M (.Subscript a b pos) s M2 := by
  constructor
  intro X H0 as0 o as σ H Q D w
  refine tE_of (pe_dget (hu_of o.room) (pE X a) (pE X b) hs) ?_
  refine ha.run X H0 as0 o as σ H _ D fun u as1 H1 l1 D1 s1 => ?_
  refine hb.run X H0 as0 o as1 σ H1 _ (D.next l1 D1) fun v as2 H2 l2 D2 s2 => ?_
  cases s1 with
  | p ea =>
    obtain ⟨vs, h1, h2⟩ := D2.mem _ _ _ hk (pre_get l2.pre ea)
    obtain ⟨v', e1, e2⟩ := (ksv_val h2).1 s hv
    refine ⟨_, v', rfl, ?_, w v' as2 H2 (l1.trans l2) D2 e2⟩
    rw [hy.kv s2, ← e1]
    exact DGet.k h1
/-- d[k] = v -/
theorem sx_dput {kvs : List (Key × S)} {q : Key} {pos' : Pos} (hv : EX c Γ M e s M1) (ha : EX c Γ M1 a (.p k) M2) (hb : EX c Γ M2 b y M3) (hk : M3[k]? = some (.dk kvs)) (hy : isKey y q) (hl : kvs.length < 1000000) (hq : N.nx Γ (M3.set k (.dk (sput kvs q s))))
    (hs : ∀ env, env.scope = c.sc → swapsWith e (some (.Subscript a b pos')) pos.line env = pure false := by intro _ _; rfl) : SX c Γ M (.Assign [.Subscript a b pos'] e pos) N := by
  constructor
  intro X H0 as0 o as σ H D d f
  refine tS_of (ps_dput (hu_of o.room) (pE X a) (pE X b) (pE X e) (hs _ o.sc)) ?_
  refine hv.run X H0 as0 o as σ H _ d fun v as1 H1 l1 D1 s1 => ?_
  refine ha.run X H0 as0 o as1 σ H1 _ (d.next l1 D1) fun u as2 H2 l2 D2 s2 => ?_
  refine hb.run X H0 as0 o as2 σ H2 _ (d.next (l1.trans l2) D2) fun w as3 H3 l3 D3 s3 => ?_
  cases s2 with
  | p ea =>
    have ea3 := pre_get l3.pre ea
    obtain ⟨vs, h1, h2⟩ := D3.mem _ _ _ hk ea3
    have hk' : k < M3.length := (List.getElem?_eq_some_iff.mp hk).1
    have hlen : vs.length < sizeLine := by
      have : kvs.length = vs.length := Paired.length h2
      rw [← this]
      exact Nat.lt_of_lt_of_le hl (by decide)
    rw [hy.kv s3]
    refine ⟨_, _, rfl, DPut.k h1 hlen, ?_⟩
    have t : ∀ o, Tk H3 (upd H3 _ o) := fun o => Tk.mut h1 (fun z => by rcases z with ⟨_, z⟩ | ⟨_, _, z⟩ <;> cases z)
    have lx : Le as H as3 (upd H3 _ (.dK (putK vs q v))) := ((l1.trans l2).trans l3).trans (.h (t _))
    exact f.nx _ _ as3 σ _ hq lx (d.next lx (D3.write hk' ea3 h1 .dK ⟨_, upd_same, KSV.le (.h (t _)) (ksv_put h2 (s1.le (l2.trans l3)))⟩ (fun _ z => by cases z)))
end
end DL

namespace DL
open PySem PySem.Spec PyProof.Rows L2
section
variable {c : Cs} {Γ : Gm} {M M' M1 M2 M3 : Sto} {e a b o tg iter : Expr} {es : List Expr} {r x y z s : S} {rs : List S} {pos p apos : Pos} {i j : Int} {k : Nat} {f : Str} {N : Nd}
/-! ### a written dict -/
def tP (X : Cx) (pos : Pos) (ks : List (Option Expr)) (vs : List Expr) : List (TE × TE) := List.zipWith (fun k v => (match k with | some k => tE X k | none => fun _ _ _ => False, tE X v)) ks vs
theorem pP (X : Cx) (pos : Pos) : ∀ (ks : List (Option Expr)) (vs : List Expr), ks.length = vs.length → ks.all (·.isSome) = true → PPs X pos ks vs (tP X pos ks vs)
  | [], [], _, _ => pps_nil
  | some k :: ks, v :: vs, h, g => pps_cons (pE X k) (pE X v) (pP X pos ks vs (by simpa using h) (by simpa using g))
  | none :: ks, v :: vs, _, g => by simp at g
  | [], _ :: _, h, _ => by simp at h
  | _ :: _, [], h, _ => by simp at h
/-- the pairs, from the left -/
inductive EPs (c : Cs) (Γ : Gm) : Sto → List (Option Expr) → List Expr → List (Key × S) → Sto → Prop
  | nil {M : Sto} : EPs c Γ M [] [] [] M
  | cons {M M1 M2 M3 : Sto} {k v : Expr} {ks : List (Option Expr)} {vs : List Expr} {x y : S} {q : Key} {kvs : List (Key × S)} : EX c Γ M k x M1 → isKey x q → EX c Γ M1 v y M2 → EPs c Γ M2 ks vs kvs M3 → EPs c Γ M (some k :: ks) (v :: vs) ((q, y) :: kvs) M3
theorem EPs.len {ks : List (Option Expr)} {vs : List Expr} {kvs : List (Key × S)} (h : EPs c Γ M ks vs kvs M1) : ks.length = vs.length ∧ kvs.length = ks.length ∧ ks.all (·.isSome) = true := by
  induction h with
  | nil => exact ⟨rfl, rfl, rfl⟩
  | cons _ _ _ _ ih => exact ⟨by simp [ih.1], by simp [ih.2.1], by simpa using ih.2.2⟩
theorem EPs.run {ks : List (Option Expr)} {vs : List Expr} {kvs : List (Key × S)} (h : EPs c Γ M ks vs kvs M1) {X : Cx} {H0 as0 as σ H} (o : OkE c X H0 as0) (D : Den c.K c.T H0 as0 Γ M as σ H) {Q : List (V × V) → Hp → Prop}
    (k : ∀ ws as' H', Le as H as' H' → DenM c.K c.T H0 as0 M1 as' H' → KSV c.K H' as' kvs ws → Q (ws.map fun kv => (kV kv.1, kv.2)) H') : tPairs (tP X pos ks vs) σ H Q := by
  induction h generalizing as H Q with
  | nil => exact k [] as H (Le.refl _ _) D.m .nil
  | cons h1 hq h2 _ ih =>
    show tE X _ σ H _
    refine h1.run X H0 as0 o as σ H _ D fun u as1 H1 l1 D1 s1 => ?_
    refine h2.run X H0 as0 o as1 σ H1 _ (D.next l1 D1) fun v as2 H2 l2 D2 s2 => ?_
    refine ih (D.next (l1.trans l2) D2) fun ws as3 H3 l3 D3 sv => ?_
    rw [hq.kv s1]
    exact k ((_, v) :: ws) as3 H3 ((l1.trans l2).trans l3) D3 (.cons ⟨rfl, s2.le l3⟩ sv)
def smerge (kvs more : List (Key × S)) : List (Key × S) := more.foldl (fun acc kv => sput acc kv.1 kv.2) kvs
theorem ksv_merge {K : PySem.W.Frag} {H : Hp} {as : List Addr} : ∀ {more : List (Key × S)} {ms : List (Key × V)} {ks : List (Key × S)} {vs : List (Key × V)}, KSV K H as more ms → KSV K H as ks vs → KSV K H as (smerge ks more) (mergeK vs ms)
  | _, _, _, _, .nil, h => h
  | (k1, s1) :: more, (k2, v2) :: ms, _, _, .cons a b, h => by
    obtain ⟨e, r⟩ := a
    cases (show k1 = k2 from e)
    show KSV K H as (smerge (sput _ k1 s1) more) (mergeK (putK _ k1 v2) ms)
    exact ksv_merge b (ksv_put h r)
theorem ex_disp {ks : List (Option Expr)} {vs : List Expr} {kvs : List (Key × S)} (h : EPs c Γ (M ++ [.dk []]) ks vs kvs M1) (h0 : M1[M.length]? = some (.dk [])) (hne : ks ≠ [] := by simp) (h15 : ks.length ≤ 15 := by decide) : EX c Γ M (.Dict ks vs pos) (.p M.length) (M1.set M.length (.dk (smerge [] kvs))) := by
  constructor
  intro X H0 as0 o as σ H Q D k
  refine tE_of (pe_disp (pP X pos ks vs h.len.1 h.len.2.2) h.len.2.2 h.len.1 hne h15) ?_
  intro p hp
  have D1 := D.m.push hp (o := .dK []) (m := .dk []) .dK ⟨[], upd_same, .nil⟩ (fun _ z => by cases z)
  have l1 := le_new (as := as) (o := .dK []) hp
  refine h.run o (D.next l1 D1) fun ws as2 H2 l2 D2 sv => ?_
  have ea : as2[M.length]? = some p := pre_get l2.pre (by rw [← D.m.len, List.getElem?_append_right (Nat.le_refl _)]; simp)
  obtain ⟨vs0, e0, r0⟩ := D2.mem _ _ _ h0 ea
  cases r0
  refine ⟨e0, ws, rfl, ?_, ?_⟩
  · have : kvs.length = ws.length := Paired.length sv
    rw [← this, h.len.2.1]
    exact h15
  · have t : ∀ o, Tk H2 (upd H2 p o) := fun o => Tk.mut e0 (fun z => by rcases z with ⟨_, z⟩ | ⟨_, _, z⟩ <;> cases z)
    have hk : M.length < M1.length := (List.getElem?_eq_some_iff.mp h0).1
    exact k _ as2 _ ((l1.trans l2).trans (.h (t _))) (D2.write hk ea e0 .dK ⟨_, upd_same, KSV.le (.h (t _)) (ksv_merge sv .nil)⟩ (fun _ z => by cases z)) (.p ea)

/-! ### slices -/
/-- a bound of a slice -/
def EO (c : Cs) (Γ : Gm) (M : Sto) (e : Option Expr) (n : Option Int) (M' : Sto) : Prop := (e = none ∧ n = none ∧ M' = M) ∨ ∃ e' i, e = some e' ∧ n = some i ∧ EX c Γ M e' (.d (.int i)) M'
theorem eo_none : EO c Γ M none none M := .inl ⟨rfl, rfl, rfl⟩
theorem eo_some (h : EX c Γ M e (.d (.int i)) M1) : EO c Γ M (some e) (some i) M1 := .inr ⟨e, i, rfl, rfl, h⟩
def tO (X : Cx) : Option Expr → TO
  | none => tNoPart
  | some e => tPart (tE X e)
theorem pO (X : Cx) : ∀ e, PO X e (tO X e)
  | none => po_none
  | some e => po_some (pE X e)
theorem EO.run {e : Option Expr} {n : Option Int} (h : EO c Γ M e n M1) {X : Cx} {H0 as0 as σ H} (o : OkE c X H0 as0) (D : Den c.K c.T H0 as0 Γ M as σ H) {Q : Option Int → Hp → Prop} (k : ∀ as' H', Le as H as' H' → DenM c.K c.T H0 as0 M1 as' H' → Q n H') : tO X e σ H Q := by
  rcases h with ⟨rfl, rfl, rfl⟩ | ⟨e', i, rfl, rfl, h⟩
  · exact k as H (Le.refl _ _) D.m
  · refine h.run X H0 as0 o as σ H _ D fun v as1 H1 l1 D1 s1 => ?_
    cases sv_int s1
    exact ⟨i, rfl, k as1 H1 l1 D1⟩
def cutS (xs : List S) (lo hi : Option Int) : List S := (xs.drop (HT.sIx xs.length 0 lo)).take (HT.sIx xs.length xs.length hi - HT.sIx xs.length 0 lo)
theorem cut_sv {K : PySem.W.Frag} {H : Hp} {as : List Addr} {ss : List S} {vs : List V} {lo hi : Option Int} (h : SVs K H as ss vs) : SVs K H as (cutS ss lo hi) (cutV vs lo hi) := by
  unfold cutS cutV
  rw [h.length]
  exact (h.drop _).take _
/-- a list's slice -/
theorem ex_slL {m : MO} {ss : List S} {lo hi : Option Expr} {l h : Option Int} {p2 : Pos} {M4 : Sto} (ha : EX c Γ M a (.p k) M1) (hl : EO c Γ M1 lo l M2) (hh : EO c Γ M2 hi h M3) (hm : M3[k]? = some m) (hi' : LItems m ss) (e4 : M4 = M3 ++ [.lst (cutS ss l h)]) (e5 : r = .p M3.length) : EX c Γ M (.Subscript a (.Slice lo hi none p2) pos) r M4 := by
  constructor
  intro X H0 as0 o as σ H Q D w
  refine tE_of (pe_slice sl_list (pE X a) (pO X lo) (pO X hi)) ?_
  refine ha.run X H0 as0 o as σ H _ D fun u as1 H1 l1 D1 s1 => ?_
  refine hl.run o (D.next l1 D1) fun as2 H2 l2 D2 => ?_
  refine hh.run o (D.next (l1.trans l2) D2) fun as3 H3 l3 D3 => ?_
  subst e4 e5
  cases s1 with
  | p ea =>
    obtain ⟨vs, h1, h2⟩ := hi'.seq (D3.mem _ _ _ hm (pre_get (l2.trans l3).pre ea))
    rw [o.K]
    exact ⟨_, vs, rfl, h1, fun p hp => new_obj D3 hp no_lst (mok_lst hp (cut_sv h2)) no_oth fun z as4 H4 l4 D4 s4 => w z as4 H4 (((l1.trans l2).trans l3).trans l4) D4 s4⟩

/-! ### enumerate -/
theorem ix_enum {args : Expr} {k0 : Nat} {elts : List Expr} {tpos : Pos} {m : MO} {ss : List S} (he : EX c Γ M args (.p k) M1) (hm : M1[k]? = some m) (hl : LItems m ss) (hmg : c.mg ("enumerate" : Str) = none) (hg : c.sc.names.lookup ("enumerate" : Str) = some gI := by rfl) (hs : ∀ env, starEach [args] env = [(false, eval args env)] := by intro _; rfl) :
    IX c Γ M (.Tuple elts k0 tpos) (.Call (.Name "enumerate" p) [args] [] pos) ss.length (fun M => ∃ m, M[k]? = some m ∧ LItems m ss) (fun i => mkT [.d (.int (i : Nat)), ss.getD i (.d .none)]) M1 := by
  constructor
  intro X H0 as0 o as σ H R D q
  refine tI_of (pi_enum (gl_ok o hg) (by rw [o.mg]; exact hmg) (pA X [args]) (hs _)) ?_
  refine (ea_cons he ea_nil (fun env => by rw [hs]; rfl)).run X H0 as0 o as σ H _ D fun vs as1 H1 l1 D1 s1 => ?_
  obtain ⟨v, rfl, s2⟩ := sv1 s1
  cases s2 with
  | p ea =>
    rename_i a0
    obtain ⟨us, h1, h2⟩ := hl.seq (D1.mem _ _ _ hm ea)
    rw [o.K]
    refine ⟨a0, us, rfl, h1, q _ as1 H1 l1 D1 ⟨fun i as2 H2 M2 hi p2 D2 ⟨m2, e2, g2⟩ => ?_, fun i as2 H2 M2 x H3 hi p2 D2 ⟨m2, e2, g2⟩ y => ?_, fun as2 H2 M2 p2 D2 ⟨m2, e2, g2⟩ => ?_⟩⟩
    · obtain ⟨ws, hw, sw⟩ := g2.seq (D2.mem _ _ _ e2 (pre_get p2.pre ea))
      obtain ⟨v, ev, _⟩ := sw.at (List.getElem?_eq_getElem hi)
      exact ⟨ws, v, hw, ev⟩
    · obtain ⟨ws, hw, sw⟩ := g2.seq (D2.mem _ _ _ e2 (pre_get p2.pre ea))
      obtain ⟨T, w, rfl, hT, rfl, hy⟩ := y
      obtain ⟨v, ev, sv⟩ := sw.at (List.getElem?_eq_getElem hi)
      have ex := hy ws hw
      rw [ev] at ex
      cases ex
      refine ⟨Same.new hT, mkT_sv (.cons (.d (.int _)) (.cons ?_ .nil)) (.inl upd_same)⟩
      have : SV c.K H2 as2 (ss.getD i (.d .none)) w := by simpa [List.getD, List.getElem?_eq_getElem hi] using sv
      exact this.le (.h (Same.tk (Same.new hT)))
    · obtain ⟨ws, hw, sw⟩ := g2.seq (D2.mem _ _ _ e2 (pre_get p2.pre ea))
      exact ⟨ws, hw, Nat.le_of_eq sw.length.symm⟩
end
end DL

namespace DL
open PySem PySem.Spec PyProof.Rows L2
/-! ### ends of bodies -/
theorem keep0 (M : Sto) : Keep 0 [] M [] := ⟨rfl, List.nodup_nil, fun _ h => (by cases h), Nat.zero_le _, fun _ _ h => absurd h (Nat.not_lt_zero _), fun i j m h => (by simp at h)⟩
theorem fin0 {x : PyData} {M : Sto} : Fin 0 (.d x) M (.d x) [] := ⟨[], keep0 M, .d x⟩
/-- pointer-free -/
inductive Fr : S → Prop
  | d (x : PyData) : Fr (.d x)
  | v (u : V) : Fr (.v u)
  | t {xs : List S} : (∀ x ∈ xs, Fr x) → Fr (.t xs)
  | q (b : Bool) (ds : List PyData) : Fr (.q b ds)
inductive FrM : MO → Prop
  | lst {xs : List S} : (∀ x ∈ xs, Fr x) → FrM (.lst xs)
  | rl {xs : List S} : (∀ x ∈ xs, Fr x) → FrM (.rl xs)
  | dk {xs : List (Key × S)} : (∀ x ∈ xs, Fr x.2) → FrM (.dk xs)
  | dt {xs : List (List Key × S)} : (∀ x ∈ xs, Fr x.2) → FrM (.dt xs)
  | ins {C : Addr} {xs : List (Str × S)} : (∀ x ∈ xs, Fr x.2) → FrM (.ins C xs)
  | xd {xs : List (Str × S)} : (∀ x ∈ xs, Fr x.2) → FrM (.xd xs)
  | oth (φ : Hp → Addr → Prop) : FrM (.oth φ)
theorem rens_of {ρ : Nat → Option Nat} : ∀ {xs : List S}, (∀ x ∈ xs, Ren ρ x x) → Rens ρ xs xs
  | [], _ => .nil
  | x :: xs, h => .cons (h x List.mem_cons_self) (rens_of fun y hy => h y (List.mem_cons_of_mem _ hy))
theorem Fr.ren (ρ : Nat → Option Nat) {x : S} (h : Fr x) : Ren ρ x x := by
  induction h with
  | d x => exact .d x
  | v u => exact .v u
  | t h ih => exact .t (rens_of ih)
  | q b ds => exact .q b ds
theorem pair_of {κ : Type} {ρ : Nat → Option Nat} : ∀ {xs : List (κ × S)}, (∀ x ∈ xs, Fr x.2) → Paired (fun p q => p.1 = q.1 ∧ Ren ρ p.2 q.2) xs xs
  | [], _ => .nil
  | x :: xs, h => .cons ⟨rfl, (h x List.mem_cons_self).ren ρ⟩ (pair_of fun y hy => h y (List.mem_cons_of_mem _ hy))
theorem FrM.ren (ρ : Nat → Option Nat) {m : MO} (h : FrM m) : RenM ρ m m := by
  cases h with
  | lst h => exact .lst (rens_of fun x hx => (h x hx).ren ρ)
  | rl h => exact .rl (rens_of fun x hx => (h x hx).ren ρ)
  | dk h => exact .dk (pair_of h)
  | dt h => exact .dt (pair_of h)
  | ins h => exact .ins (pair_of h)
  | xd h => exact .xd (pair_of h)
  | oth φ => exact .oth φ
theorem fr_data {ds : List PyData} : ∀ x ∈ ds.map S.d, Fr x := fun x h => by
  obtain ⟨d, _, rfl⟩ := List.mem_map.mp h
  exact .d d
theorem frm_data {ds : List PyData} : FrM (.lst (ds.map S.d)) := .lst fr_data
/-- a store all of whose first n objects are pointer-free -/
theorem keep_fr {n : Nat} {js : List Nat} {M M' : Sto} (hl : M'.length = n + js.length) (nd : js.Nodup) (lo : ∀ j ∈ js, n ≤ j ∧ j < M.length) (hn : n ≤ M.length)
    (f1 : ∀ k, k < n → M'[k]? = M[k]?) (f2 : ∀ (i j : Nat), js[i]? = some j → M'[n + i]? = M[j]?) (f : ∀ m ∈ M', FrM m) : Keep n js M M' :=
  ⟨hl, nd, lo, hn, fun k m h e => ⟨m, (f1 k h).trans e, (f m (List.mem_of_getElem? ((f1 k h).trans e))).ren _⟩, fun i j m h e => ⟨m, (f2 i j h).trans e, (f m (List.mem_of_getElem? ((f2 i j h).trans e))).ren _⟩⟩
/-- the first n objects alone -/
theorem keep_take {n : Nat} {M : Sto} (hn : n ≤ M.length) (f : ∀ m ∈ M.take n, FrM m) : Keep n [] M (M.take n) :=
  keep_fr (by simp [hn]) List.nodup_nil (fun _ h => by cases h) hn (fun k h => by simp [List.getElem?_take, h]) (fun i j h => by simp at h) f
theorem keep_refl {M : Sto} (f : ∀ m ∈ M, FrM m) : Keep M.length [] M M := by
  have := keep_take (Nat.le_refl M.length) (by simpa using f)
  simpa using this
theorem fin_d {n : Nat} {x : PyData} {M M' : Sto} (hn : n ≤ M.length) (e : M.take n = M') (f : ∀ m ∈ M', FrM m) : Fin n (.d x) M (.d x) M' := by
  subst e
  exact ⟨[], keep_take hn f, .d x⟩
/-- a new object comes back -/
theorem fin_p {n k : Nat} {m : MO} {M M' : Sto} (hn : n ≤ k) (hk : M[k]? = some m) (e : M' = M.take n ++ [m]) (f : ∀ m ∈ M', FrM m) : Fin n (.p k) M (.p n) M' := by
  have hl := (List.getElem?_eq_some_iff.mp hk).1
  subst e
  have hlen : (M.take n).length = n := by simp; omega
  refine ⟨[k], keep_fr (by simp; omega) (by simp) (fun j h => by simp at h; omega) (by omega) (fun i h => ?_) (fun i j h => ?_) f, .p ?_⟩
  · rw [List.getElem?_append_left (by omega), List.getElem?_take, if_pos h]
  · have hi : i = 0 := by
      have := (List.getElem?_eq_some_iff.mp h).1
      simpa using this
    subst hi
    simp at h
    subst h
    rw [List.getElem?_append_right (by omega), hlen, hk]
    simp
  · unfold keepR
    rw [if_neg (by omega)]
    simp [List.idxOf?_cons]
end DL

namespace DL
open PySem PySem.Spec PyProof.Rows L2 DX
section
variable {X : Cx} {k : Nat} {fI C : Addr} {fd : FuncData} {f msg pn : Str} {B nI iI : String} {bmB : List Value} {pins : List (Addr × Obj)} {σ : L2.St} {H : Hp} {s : Shared} {Q : VK} {us : List Value} {kw : List (Str × Value)} {u : Value} {y : V}
theorem run_mkx (T : XcC X.K C B nI iI bmB) (iC : PySem.W.findIn X.K (.ref C) "__init__" = some (some (.ref fI))) (tI : PySem.W.typeIn X.K (.ref fI) = some (.type "function")) (F : FnOk X.prog X.w X.K X.mg X.base CX0 k fI fd ["self", pn] (spI C f msg)) (hr : Room (k + 1) X.A)
    (hb : ∀ (s : Shared) (e : Addr), X.K.In s.heap → BindsTo s fd ⟨.ref e :: us, kw⟩ [("self", .ref e), (pn, u)]) (ry : RelV y u) (I : Inv X pins σ H s) (hl : us.length ≤ sizeLine)
    (h : ∀ a t dx, H a = none → H t = none → H dx = none → t ≠ a → dx ≠ a → dx ≠ t → Q (.ref a) (upd (upd (upd H t (.tup [.str msg])) dx (exd dx [(f, y)])) a (exm a C t (some dx)))) :
    wpAny (model X.prog X.w) X.A (call (.ref C) us kw) (EP X pins σ Q) X.xe s := by
  obtain ⟨nm, N, qn, bs, bm, hdct, sn, sub, ab, col, dd, k0, k1, k2, k3, k5, hC, hT⟩ := PySem.W.excInit_of I.kIn T.ei
  obtain ⟨hp, g, d, tk, os⟩ := s
  have hsz : hp.objs.size ≤ hp.objs.size + 1 := Nat.le_succ _
  have hn : H (hp.objs.size + 1) = none := I.hok.fresh hsz
  have kk : ∀ b o, hp.get? b = some o → ((hp.push (PySem.W.kdv_tup us)).push (HandSPX.excO C hp.objs.size)).get? b = some o := fun b o e => Heap.get?_push_of_some _ (Heap.get?_push_of_some _ e)
  have ge : ((hp.push (PySem.W.kdv_tup us)).push (HandSPX.excO C hp.objs.size)).get? (hp.objs.size + 1) = some (HandSPX.excO C hp.objs.size) := by heap_get
  have I2 : Inv X pins σ (upd H (hp.objs.size + 1) (exm (hp.objs.size + 1) C hp.objs.size none)) ⟨(hp.push (PySem.W.kdv_tup us)).push (HandSPX.excO C hp.objs.size), g, d, tk, os⟩ := I.laid (t' := tk) kk hsz (exm_ok ge)
  refine wpAny_call (call_kw T.eb hT hC hl (PySem.W.looks_findIn I.kIn iC) (fun self => PySem.W.bind_fn I.kIn self tI) (codeAny_mono (F.run _ X.stack _ _ ⟨Value.ref (hp.objs.size + 1) :: us, kw⟩ [.ref (hp.objs.size + 1), u] [.ref (hp.objs.size + 1), y]
    (fun v H2 => v = .non ∧ Q (.ref (hp.objs.size + 1)) H2) (fun _ _ _ => False) (hr.make C us kw) (I2.env0.make C us kw) (hb _ _ I2.kIn) (.cons rfl (.cons ry .nil)) ?_) fun r s' hq' => ?_))
  · exact ⟨_, _, y, H, rfl, hn, rfl, fun t dx n1 n2 e1 e2 e3 => ⟨rfl, h _ t dx hn n1 n2 e1 e2 e3⟩⟩
  · cases r with
    | error e => exact hq'.elim
    | ok fl =>
      cases fl with
      | ret v =>
        obtain ⟨v, H', I3, rv, ev, q3⟩ := I2.after hq'
        subst ev
        exact ⟨rv, V.ref (hp.objs.size + 1), H', I3, rfl, q3⟩
      | next => exact False.elim hq'
      | brk => exact False.elim hq'
      | cont => exact False.elim hq'
end
/-- the class x of the text stands at C; its __init__ hands msg on and keeps the thing as f -/
structure XM (m : Ms) (x : Str) (C : Addr) (f msg pn : Str) (dfl : Bool) : Prop where
  mg : m.mg x = some (.ref C)
  kC : PySem.W.keepIn m.K (.ref C) = true
  ex : ∃ (B nI iI : String) (bmB : List Value) (fI : Addr) (fd : FuncData), XcC m.K C B nI iI bmB ∧ PySem.W.findIn m.K (.ref C) "__init__" = some (some (.ref fI)) ∧ PySem.W.typeIn m.K (.ref fI) = some (.type "function") ∧
    FnOk m.P m.w m.K m.mg m.base CX0 1 fI fd ["self", pn] (spI C f msg) ∧
    (∀ (s : Shared) (e : Addr) (u : Value), m.K.In s.heap → BindsTo s fd ⟨[.ref e, u], []⟩ [("self", .ref e), (pn, u)]) ∧
    (∀ (s : Shared) (e : Addr) (u : Value), m.K.In s.heap → BindsTo s fd ⟨[.ref e], [(pn, u)]⟩ [("self", .ref e), (pn, u)]) ∧
    (dfl = true → ∀ (s : Shared) (e : Addr), m.K.In s.heap → BindsTo s fd ⟨[.ref e], []⟩ [("self", .ref e), (pn, .none)])
section
variable {c : Cs} {Γ : Gm} {M M1 : Sto} {e : Expr} {r : S} {p pos : Pos} {x f msg pn : Str} {C : Addr} {dfl : Bool}
/-- behind the making -/
abbrev mkx (M : Sto) (C : Addr) (f msg : Str) (r : S) : Sto := M ++ [.xd [(f, r)]] ++ [.xo C msg (.p M.length)]
theorem mkx_den {K : PySem.W.Frag} {T : Tb} {H0 H : Hp} {as0 as : List Addr} {y : V} {a t dx : Addr} (D : DenM K T H0 as0 M as H) (sy : SV K H as r y) (na : H a = none) (nt : H t = none) (nd : H dx = none) (e1 : t ≠ a) (e2 : dx ≠ a) (e3 : dx ≠ t) :
    Le as H (as ++ [dx] ++ [a]) (upd (upd (upd H t (.tup [.str msg])) dx (exd dx [(f, y)])) a (exm a C t (some dx))) ∧ DenM K T H0 as0 (mkx M C f msg r) (as ++ [dx] ++ [a]) (upd (upd (upd H t (.tup [.str msg])) dx (exd dx [(f, y)])) a (exm a C t (some dx))) := by
  have k1 : Same H (upd H t (.tup [.str msg])) := Same.new nt
  have n2 : upd H t (.tup [.str msg]) dx = none := by rw [upd_ne e3]; exact nd
  have k2 : Same (upd H t (.tup [.str msg])) (upd (upd H t (.tup [.str msg])) dx (exd dx [(f, y)])) := Same.new n2
  have n3 : upd (upd H t (.tup [.str msg])) dx (exd dx [(f, y)]) a = none := by rw [upd_ne (Ne.symm e2), upd_ne (Ne.symm e1)]; exact na
  have k3 : Same (upd (upd H t (.tup [.str msg])) dx (exd dx [(f, y)])) (upd (upd (upd H t (.tup [.str msg])) dx (exd dx [(f, y)])) a (exm a C t (some dx))) := Same.new n3
  have tk1 := (Same.tk k1).trans (Same.tk k2)
  have D2 : DenM K T H0 as0 (M ++ [.xd [(f, r)]]) (as ++ [dx]) (upd (upd H t (.tup [.str msg])) dx (exd dx [(f, y)])) :=
    (D.grow k1).push n2 .xd ⟨[(f, y)], upd_same, .cons ⟨rfl, SV.le ⟨List.prefix_append _ _, tk1⟩ sy⟩ .nil⟩ (fun φ e => by cases e)
  refine ⟨⟨by rw [List.append_assoc]; exact List.prefix_append _ _, tk1.trans (Same.tk k3)⟩, D2.push n3 .exm ⟨dx, t, .p ?_, upd_same, ?_⟩ (fun φ e => by cases e)⟩
  · rw [← D.len, List.append_assoc, List.getElem?_append_right (Nat.le_refl _)]
    simp
  · rw [upd_ne e1, upd_ne (Ne.symm e3), upd_same]
theorem mkx_sv {K : PySem.W.Frag} {T : Tb} {H0 H H' : Hp} {as0 as : List Addr} {a dx : Addr} (D : DenM K T H0 as0 M as H) : SV K H' (as ++ [dx] ++ [a]) (.p (M.length + 1)) (.ref a) := by
  refine .p ?_
  rw [← D.len, List.append_assoc, List.getElem?_append_right (Nat.le_succ _)]
  simp
theorem mkx_go {X : Cx} {H0 H : Hp} {as0 as : List Addr} {σ : L2.St} {Q : VK} {pins : List (Addr × Obj)} {s : Shared} {us : List Value} {kw : List (Str × Value)} {u : Value} {y : V} (W : XM c.ms x C f msg pn dfl) (o : OkE c X H0 as0) (hk : 2 ≤ c.k) (D : DenM c.K c.T H0 as0 M as H) (sy : SV c.K H as r y) (ry : RelV y u) (hl : us.length ≤ 1000)
    (hb : ∀ fd : FuncData, (∀ (s : Shared) (e : Addr) (u : Value), c.K.In s.heap → BindsTo s fd ⟨[.ref e, u], []⟩ [("self", .ref e), (pn, u)]) → (∀ (s : Shared) (e : Addr) (u : Value), c.K.In s.heap → BindsTo s fd ⟨[.ref e], [(pn, u)]⟩ [("self", .ref e), (pn, u)]) →
      (dfl = true → ∀ (s : Shared) (e : Addr), c.K.In s.heap → BindsTo s fd ⟨[.ref e], []⟩ [("self", .ref e), (pn, .none)]) → ∀ (s : Shared) (e : Addr), c.K.In s.heap → BindsTo s fd ⟨.ref e :: us, kw⟩ [("self", .ref e), (pn, u)])
    (k : ∀ v as' H', Le as H as' H' → DenM c.K c.T H0 as0 (mkx M C f msg r) as' H' → SV c.K H' as' (.p (M.length + 1)) v → Q v H') (I : Inv X pins σ H s) : wpAny (model X.prog X.w) X.A (call (.ref C) us kw) (EP X pins σ Q) X.xe s := by
  obtain ⟨B, nI, iI, bmB, fI, fd, T, iC, tI, F, b1, b2, b3⟩ := W.ex
  have F' : FnOk X.prog X.w X.K X.mg X.base CX0 1 fI fd ["self", pn] (spI C f msg) := by
    rw [o.P, o.w, o.K, o.mg, o.base]
    exact F
  refine run_mkx (u := u) (y := y) (by rw [o.K]; exact T) (by rw [o.K]; exact iC) (by rw [o.K]; exact tI) F' (o.room.mono hk) (by rw [o.K]; exact hb fd b1 b2 b3) ry I (by rw [sizeLine_eq]; omega) fun a t dx na nt nd e1 e2 e3 => ?_
  obtain ⟨l, d⟩ := mkx_den (f := f) (msg := msg) (C := C) D sy na nt nd e1 e2 e3
  exact k _ _ _ l d (mkx_sv D)
/-- X(e) -/
theorem ex_mkx (W : XM c.ms x C f msg pn dfl) (he : EX c Γ M e r M1) (hk : 2 ≤ c.k := by exact Nat.le_of_ble_eq_true rfl) (hg : c.sc.names.lookup x = some gI := by rfl) (hdb : (x == ("__debug__" : Str)) = false := by decide)
    (hs : ∀ env, starEach [e] env = (false, eval e env) :: starEach [] env := by intro _; rfl) (hpl : ∀ env, (backTo pos (starEach [] env)).any (·.1) = false := by intro _; rfl) : EX c Γ M (.Call (.Name x p) [e] [] pos) (.p (M1.length + 1)) (mkx M1 C f msg r) := by
  constructor
  intro X H0 as0 o as σ H Q D k pins s I
  refine wpAny_Call_Name_kw (ld_glob I (gl_ok o hg) (by rw [o.mg]; exact W.mg) ?_ hdb)
  have ha := (ea_cons he ea_nil hs).run X H0 as0 o as σ H (fun vs H1 => ∃ as1, Le as H as1 H1 ∧ DenM c.K c.T H0 as0 M1 as1 H1 ∧ SVs c.K H1 as1 [r] vs) D fun vs as1 H1 l1 D1 s1 => ⟨as1, l1, D1, s1⟩
  refine PySem.W.callWith_K (h₀ := X.base) I.ok.mod.kin (by rw [o.K]; exact W.kC) (thn (ha pos pins s I) fun us s1 hh => ?_) (hs _) (hpl _)
  obtain ⟨vs, H1, I1, r1, as1, l1, D1, sv⟩ := hh
  cases sv with
  | cons sy sn =>
    cases sn
    cases r1 with
    | cons ry rn =>
      cases rn
      exact ⟨I1.kIn, mkx_go W o hk D1 sy ry (by show 1 ≤ 1000; decide) (fun fd b1 _ _ s e X => b1 s e _ X) (fun v as2 H2 l2 D2 s2 => k v as2 H2 (l1.trans l2) D2 s2) I1⟩
/-- X() -/
theorem ex_mkx0 (W : XM c.ms x C f msg pn true) (hk : 2 ≤ c.k := by exact Nat.le_of_ble_eq_true rfl) (hg : c.sc.names.lookup x = some gI := by rfl) (hdb : (x == ("__debug__" : Str)) = false := by decide) : EX c Γ M (.Call (.Name x p) [] [] pos) (.p (M.length + 1)) (mkx M C f msg (.d .none)) := by
  constructor
  intro X H0 as0 o as σ H Q D k pins s I
  refine wpAny_Call_Name_kw (ld_glob I (gl_ok o hg) (by rw [o.mg]; exact W.mg) ?_ hdb)
  exact PySem.W.callWith_K0 I.kIn (by rw [o.K]; exact W.kC) (mkx_go (us := []) (u := .none) (y := .non) W o hk D.m (.d .non) rfl (Nat.zero_le _) (fun fd _ _ b3 s e X => b3 rfl s e X) k I)
/-- X(pn = e) -/
theorem ex_mkxK {kp : Pos} (W : XM c.ms x C f msg pn dfl) (he : EX c Γ M e r M1) (hk : 2 ≤ c.k := by exact Nat.le_of_ble_eq_true rfl) (hg : c.sc.names.lookup x = some gI := by rfl) (hdb : (x == ("__debug__" : Str)) = false := by decide)
    (hall : ∀ env, (backToKw pos (keywordEach [⟨some pn, e, kp⟩] env)).all (·.1.isSome) = true := by intro _; rfl) (hks : ∀ env, (backToKw pos (keywordEach [⟨some pn, e, kp⟩] env)).filterMap (·.1) = [pn] := by intro _; rfl)
    (hpl : ∀ env, ((backTo pos (starEach [] env)).any (·.1) || (backToKw pos (keywordEach [⟨some pn, e, kp⟩] env)).any (·.1.isNone)) = false := by intro _; rfl) :
    EX c Γ M (.Call (.Name x p) [] [⟨some pn, e, kp⟩] pos) (.p (M1.length + 1)) (mkx M1 C f msg r) := by
  constructor
  intro X H0 as0 o as σ H Q D k pins s I
  refine wpAny_Call_Name_kw (ld_glob I (gl_ok o hg) (by rw [o.mg]; exact W.mg) ?_ hdb)
  refine PySem.W.callWith_KW0 (h₀ := X.base) I.ok.mod.kin (by rw [o.K]; exact W.kC) (hall _) ?_ (hpl _)
  have ha : tCons (tE X e) tNil σ H (fun vs H1 => ∃ as1, Le as H as1 H1 ∧ DenM c.K c.T H0 as0 M1 as1 H1 ∧ SVs c.K H1 as1 [r] vs) :=
    he.run X H0 as0 o as σ H _ D fun v as1 H1 l1 D1 s1 => ⟨as1, l1, D1, .cons s1 .nil⟩
  refine thn ((pk_cons (nm := some pn) (kpos := kp) (pE X e) pk_nil).run pos pins s σ H _ I ha) fun ws s2 hh => ?_
  obtain ⟨vs, H1, I1, r1, as1, l1, D1, sv⟩ := hh
  refine ⟨I1.kIn, ?_⟩
  rw [hks]
  cases sv with
  | cons sy sn =>
    cases sn
    cases r1 with
    | cons ry rn =>
      cases rn
      exact mkx_go (us := []) W o hk D1 sy ry (Nat.zero_le _) (fun fd _ b2 _ s e X => b2 s e _ X) (fun v as2 H2 l2 D2 s2 => k v as2 H2 (l1.trans l2) D2 s2) I1
end
end DL

namespace DL
open PySem PySem.Spec PyProof.Rows L2 DX
section
variable {K : PySem.W.Frag} {T : Tb} {P : Program} {w : World} {H : Hp} {h : Heap} {a C t d : Addr} {vs : List (Str × V)}
theorem ksv_get {κ : Type} [BEq κ] [LawfulBEq κ] {as : List Addr} {f : κ} {r : S} : ∀ {fs : List (κ × S)} {us : List (κ × V)}, KSV K H as fs us → fs.lookup f = some r → ∃ v, us.lookup f = some v ∧ SV K H as r v
  | _, _, .nil, e => by cases e
  | (g, x) :: fs, (g', y) :: us, .cons q k, e => by
    obtain ⟨e1, e2⟩ := q
    dsimp only at e1 e2
    subst e1
    by_cases z : (f == g) = true
    · simp only [List.lookup, z] at e ⊢
      cases e
      exact ⟨y, rfl, e2⟩
    · rw [Bool.not_eq_true] at z
      simp only [List.lookup, z] at e ⊢
      exact ksv_get k e
theorem exm_inst (ok : HOk P w H h) (e : H a = some (exm a C t (some d))) (ed : H d = some (exd d vs)) :
    ∃ (mA : Str → Option Value) (od : Obj), h.Ns1 d mA ∧ (∀ f, RelO (vs.lookup f) (mA f)) ∧ h.get? d = some od ∧ (∀ n, PySem.W.lookIn n od = some (mA n)) ∧
      PySem.W.InstAt h a ({ cls := .ref C, dict := some d, data := .fields #[.ref t, .none, .none, .none, .bool false, .none] } : Obj) C (some od) := by
  obtain ⟨mA, hn, rl⟩ := exd_at ok ed
  obtain ⟨od, ho, hl⟩ := lookIn_ns hn
  exact ⟨mA, od, hn, rl, ho, hl, exm_at ok e, rfl, rfl, ho⟩
end
section
variable {c : Cs} {Γ : Gm} {M M1 : Sto} {e : Expr} {r s : S} {p pos : Pos} {x f msg : Str} {C : Addr} {k j : Nat} {fs : List (Str × S)}
/-- e.f, e an exception of ours -/
theorem ex_xf (T : XqC c.K C) (hno : PySem.W.findIn c.K (.ref C) f = some none) (he : EX c Γ M e (.p k) M1) (h1 : M1[k]? = some (.xo C msg (.p j))) (h2 : M1[j]? = some (.xd fs)) (hf : fs.lookup f = some r)
    (hb : ∀ env, attributeBase e f env (eval e env) = eval e env := by intro _; rfl) : EX c Γ M (.Attribute e f pos) r M1 := by
  constructor
  intro X H0 as0 o as σ H Q D kq pins s I
  refine attr_of (hb _) (thn (he.run X H0 as0 o as σ H (fun v H1 => ∃ as1, Le as H as1 H1 ∧ DenM c.K c.T H0 as0 M1 as1 H1 ∧ SV c.K H1 as1 (.p k) v) D (fun v as1 H1 l1 D1 s1 => ⟨as1, l1, D1, s1⟩) pins s I) fun u s1 hh => ?_)
  obtain ⟨v, H1, I1, rv, as1, l1, D1, sv⟩ := hh
  cases sv with
  | p ea =>
    obtain rfl : u = Value.ref _ := rv
    obtain ⟨d, t, sd, e1, _⟩ := D1.mem k _ _ h1 ea
    cases sd with
    | p ed =>
      obtain ⟨vs, e2, kv⟩ := D1.mem j _ _ h2 ed
      obtain ⟨mA, od, hn, rl, ho, hl, J⟩ := exm_inst I1.hok e1 e2
      obtain ⟨y, ly, sy⟩ := ksv_get kv hf
      obtain ⟨z, hz, rz⟩ := RelO.some_of (v := y) (o := mA f) (by rw [← ly]; exact rl f)
      have KX : c.K.In s1.heap := by rw [← o.K]; exact I1.kIn
      exact HandSPX.exc_get KX J T.ga T.gg T.sb (PySem.W.findObj_own T.hd hno rfl (by rw [hl, hz])) (handed_of rz) ⟨y, H1, I1.tok _, rz, kq y as1 H1 l1 D1 sy⟩
/-- isinstance(e, X), e an exception of ours -/
theorem cs_isx {cv : Value} {u : V} {b : Bool} (T : XqC c.K C) (G : XqG c.K) (h1 : M[k]? = some (.xo C msg (.p j))) (h2 : M[j]? = some (.xd fs)) (hu : ClsV u cv) (hb : PySem.W.kitOne c.K (.ref C) cv = some b) : CS c (.builtin "isinstance") [.p k, .v u] M (.d (.bool b)) M := by
  constructor
  intro X H0 as0 o
  refine ⟨fun xs H Q => ∃ (a d t : Addr) (vs : List (Str × V)), xs = [.ref a, u] ∧ H a = some (exm a C t (some d)) ∧ H d = some (exd d vs) ∧ Q (.bl b) H, fun pins s σ H xs us Q I r h => ?_, fun as H vs Q D sv q => ?_⟩
  · obtain ⟨a, d, t, vs, rfl, e1, e2, q⟩ := h
    obtain ⟨u1, u2, rfl, r1, r2⟩ := vals2 r
    obtain rfl : u1 = Value.ref a := r1
    have e := hu.eq r2
    subst e
    obtain ⟨mA, od, hn, rl, ho, hl, J⟩ := exm_inst I.hok e1 e2
    have KX : c.K.In s.heap := by rw [← o.K]; exact I.kIn
    exact PySem.W.kia_one (kitx T G) KX J hb (fun z => nomatch z) fun tk => ⟨.bl b, H, I.tok tk, rfl, q⟩
  · obtain ⟨v, w, rfl, s1, s2⟩ := sv2 sv
    cases sv_v s2
    cases s1 with
    | p ea =>
      obtain ⟨d, t, sd, e1, _⟩ := D.mem k _ _ h1 ea
      cases sd with
      | p ed =>
        obtain ⟨vs, e2, kv⟩ := D.mem j _ _ h2 ed
        exact ⟨_, d, t, vs, rfl, e1, e2, q _ as H (Le.refl _ _) D (.d (.bl _))⟩
/-- str(e), e an exception of ours -/
theorem cs_strx (T : XqC c.K C) (h1 : M[k]? = some (.xo C msg s)) : CS c (.type "str") [.p k] M (.d (.str msg)) M := by
  constructor
  intro X H0 as0 o
  refine ⟨fun xs H Q => ∃ (a d t : Addr), xs = [.ref a] ∧ H a = some (exm a C t (some d)) ∧ H t = some (.tup [.str msg]) ∧ Q (.str msg) H, fun pins s σ H xs us Q I r h => ?_, fun as H vs Q D sv q => ?_⟩
  · obtain ⟨a, d, t, rfl, e1, e2, q⟩ := h
    cases r with
    | cons r1 rn =>
      cases rn
      rename_i u1
      obtain rfl : u1 = Value.ref a := r1
      have ho := exm_at I.hok e1
      obtain ⟨_, its, rv, ot, h1, h2, n, h3⟩ := (show ObjOk X.prog X.w H s.heap t (.tup [.str msg]) from I.hok t _ e2)
      cases rv with
      | cons rm rn =>
        cases rn
        obtain ⟨tk, rfl⟩ := rm
        have KX : c.K.In s.heap := by rw [← o.K]; exact I.kIn
        exact PySem.P.str_of_C_one (K := c.K) (C := C) (e := a) (t0 := t) (by have := o.room.units; omega) ⟨KX, _, _, ho, rfl, rfl, rfl⟩ ⟨ot, n, h1, h2, h3⟩ T.st T.sb ⟨.str msg, H, I, ⟨tk, rfl⟩, q⟩
  · obtain ⟨v, rfl, s1⟩ := sv1 sv
    cases s1 with
    | p ea =>
      obtain ⟨d, t, sd, e1, e2⟩ := D.mem k _ _ h1 ea
      exact ⟨_, d, t, rfl, e1, e2, q _ as H (Le.refl _ _) D (.d (.str _))⟩
end
end DL

namespace DL
open PySem PySem.Spec PyProof.Rows L2 DX
def CPowB (a n : Int) : Prop := 0 ≤ n ∧ (Builtin.Int.intBits a : Int) * n ≤ 2 ^ 27
/-- text * number -/
def repS (x : Str) (n : Int) : Str := if n < 1 then Str.empty else if (n == 1 || x.length == 0) = true then x else ⟨(List.replicate n.toNat x.cps).foldl (· ++ ·) #[]⟩
section
variable {c : Cs} {M : Sto} {i j : Int} {x : Str}
theorem os_powB (h : CPowB i j) : OS c (binaryOp .Pow) (.d (.int i)) (.d (.int j)) M (.d (.int (i ^ j.toNat))) M :=
  os_int (C := CPowB) (g := fun i j => i ^ j.toNat) (fun _ => opI fun _ _ _ _ _ _ _ hc q => pow_int hc.1 hc.2 q) h
theorem os_mulS (h0 : 0 ≤ j) (h1 : j ≤ 1000) (hl : x.length ≤ 1000) (hr : (repS x j).length ≤ 1000000) : OS c (binaryOp .Mult) (.d (.str x)) (.d (.int j)) M (.d (.str (repS x j))) M :=
  os_val (R := fun u v H Q => u = .str x ∧ v = .int j ∧ Q (.str (repS x j)) H) (fun X o => by
    intro pins s σ H u v uu vv Q I ru rv h
    obtain ⟨rfl, rfl, q⟩ := h
    obtain ⟨t, rfl⟩ := ru
    obtain ⟨t', rfl⟩ := rv
    have hx : (x.length : Int) * j ≤ 1000 * 1000 := by
      have : (x.length : Int) ≤ 1000 := by exact_mod_cast hl
      exact Int.mul_le_mul this h1 h0 (by decide)
    refine PySem.P.mul_str ?_ (fun hn _ => ?_) (fun hn _ => ?_) ?_
    · rw [Bool.or_eq_false_iff]
      exact ⟨decide_eq_false (by omega), decide_eq_false (by omega)⟩
    · have : (1000 : Int) * j ≤ 2 ^ 63 - 1 := by omega
      have := (Int.le_ediv_iff_mul_le (a := 1000) (b := 2 ^ 63 - 1) (c := j) (by omega)).mpr this
      have : (x.length : Int) ≤ 1000 := by exact_mod_cast hl
      omega
    · have h2 : x.length * j.toNat ≤ 1000 * 1000 := Nat.mul_le_mul hl (by omega)
      unfold PySem.Builtin.Str.tooLong
      rw [decide_eq_false_iff_not, sizeLine_eq]
      omega
    · unfold repS at q hr
      split
      · rename_i z
        rw [if_pos z] at q hr
        exact ⟨by rw [sizeLine_eq]; omega, .str _, H, I.tok _, ⟨_, rfl⟩, q⟩
      · rename_i z
        rw [if_neg z] at q hr
        split
        · rename_i z2
          rw [if_pos z2] at q
          exact ⟨.str _, H, I, ⟨_, rfl⟩, q⟩
        · rename_i z2
          rw [if_neg z2] at q hr
          exact ⟨by rw [sizeLine_eq]; omega, .str _, H, I.tok _, ⟨_, rfl⟩, q⟩) fun H as u v Q sx sy k => ⟨sv_str sx, sv_int sy, k _ (.d (.str _))⟩
theorem cs_strI (h : i.natAbs.log2 < 1920) : CS c (.type "str") [.d (.int i)] M (.d (.str (toString i))) M :=
  cs_of (fun _ => _) (fun X o => call_str_int) fun X H0 as0 o as H vs Q D sv q => by
    obtain ⟨v, rfl, s1⟩ := sv1 sv
    cases sv_int s1
    exact ⟨i, rfl, h, q _ as H (Le.refl _ _) D (.d (.str _))⟩
theorem cs_strS : CS c (.type "str") [.d (.str x)] M (.d (.str x)) M :=
  cs_of (fun _ => _) (fun X o => SkE.call_str_str) fun X H0 as0 o as H vs Q D sv q => by
    obtain ⟨v, rfl, s1⟩ := sv1 sv
    cases sv_str s1
    exact ⟨x, rfl, q _ as H (Le.refl _ _) D (.d (.str _))⟩
end
end DL

namespace DL
open PySem PySem.Spec PyProof.Rows L2 DX
/-! ### pointers below n alone -/
mutual
def loS (n : Nat) : S → Prop
  | .d _ => True
  | .v _ => True
  | .p k => k < n
  | .t xs => loL n xs
  | .q _ _ => True
def loL (n : Nat) : List S → Prop
  | [] => True
  | x :: xs => loS n x ∧ loL n xs
end
def loM (n : Nat) : MO → Prop
  | .lst xs => loL n xs
  | .rl xs => loL n xs
  | .dk kvs => loL n (kvs.map (·.2))
  | .dt kvs => loL n (kvs.map (·.2))
  | .ins _ fs => loL n (fs.map (·.2))
  | .xo _ _ s => loS n s
  | .xk _ s => loS n s
  | .xd fs => loL n (fs.map (·.2))
  | .oth _ => True
def loMs (n : Nat) : List MO → Prop
  | [] => True
  | m :: r => loM n m ∧ loMs n r
def loG (n : Nat) : Gm → Prop
  | [] => True
  | none :: r => loG n r
  | some s :: r => loS n s ∧ loG n r
section
variable {n : Nat} {ρ : Nat → Option Nat} (hρ : ∀ k, k < n → ρ k = some k)
include hρ
mutual
theorem loS.ren : ∀ {x : S}, loS n x → Ren ρ x x
  | .d x, _ => .d x
  | .v u, _ => .v u
  | .p k, h => .p (hρ k h)
  | .t xs, h => .t (loL.ren (by unfold loS at h; exact h))
  | .q b ds, _ => .q b ds
theorem loL.ren : ∀ {xs : List S}, loL n xs → Rens ρ xs xs
  | [], _ => .nil
  | x :: xs, h => by
    unfold loL at h
    exact .cons (loS.ren h.1) (loL.ren h.2)
end
theorem loL.pair {κ : Type} : ∀ {xs : List (κ × S)}, loL n (xs.map (·.2)) → Paired (fun p q => p.1 = q.1 ∧ Ren ρ p.2 q.2) xs xs
  | [], _ => .nil
  | x :: xs, h => by
    rw [List.map_cons] at h
    unfold loL at h
    exact .cons ⟨rfl, loS.ren hρ h.1⟩ (loL.pair h.2)
theorem loM.ren : ∀ {m : MO}, loM n m → RenM ρ m m
  | .lst xs, h => .lst (loL.ren hρ h)
  | .rl xs, h => .rl (loL.ren hρ h)
  | .dk xs, h => .dk (loL.pair hρ h)
  | .dt xs, h => .dt (loL.pair hρ h)
  | .ins _ xs, h => .ins (loL.pair hρ h)
  | .xo _ _ s, h => .xo (loS.ren hρ h)
  | .xk _ s, h => .xk (loS.ren hρ h)
  | .xd xs, h => .xd (loL.pair hρ h)
  | .oth φ, _ => .oth φ
end
theorem loMs.at {n : Nat} : ∀ {M : Sto}, loMs n M → ∀ m ∈ M, loM n m
  | [], _, m, h => by cases h
  | a :: r, h, m, hm => by
    unfold loMs at h
    rcases List.mem_cons.mp hm with rfl | hm
    · exact h.1
    · exact loMs.at h.2 m hm
theorem loG.at {n : Nat} : ∀ {Γ : Gm}, loG n Γ → ∀ (i : Nat) s, Γ[i]? = some (some s) → loS n s
  | [], _, i, s, e => by simp at e
  | none :: r, h, 0, s, e => by simp at e
  | none :: r, h, i + 1, s, e => loG.at (Γ := r) (by unfold loG at h; exact h) i s (by simpa using e)
  | some x :: r, h, 0, s, e => by
    unfold loG at h
    simp at e
    subst e
    exact h.1
  | some x :: r, h, i + 1, s, e => by
    unfold loG at h
    exact loG.at h.2 i s (by simpa using e)
theorem keepR_lo {n : Nat} {js : List Nat} (k : Nat) (h : k < n) : keepR n js k = some k := if_pos h
/-- the first n objects stay, pointing among themselves -/
theorem keep_lo {n : Nat} {M M' : Sto} (hn : n ≤ M.length) (e : M.take n = M') (f : loMs n M') : Keep n [] M M' := by
  subst e
  refine ⟨by simp [hn], List.nodup_nil, fun _ h => absurd h List.not_mem_nil, hn, fun k m h e => ⟨m, by simp [List.getElem?_take, h, e], loM.ren (fun k h => keepR_lo k h) (f.at m (List.mem_of_getElem? (i := k) (by simp [List.getElem?_take, h, e])))⟩, fun i j m h => by simp at h⟩
/-- forgetting slots: Γ' is Γ with some of them gone -/
def subG : Gm → Gm → Prop
  | [], [] => True
  | none :: r, _ :: r' => subG r r'
  | some s :: r, t :: r' => some s = t ∧ subG r r'
  | _, _ => False
theorem subG.at : ∀ {Γ' Γ : Gm}, subG Γ' Γ → Γ'.length = Γ.length ∧ ∀ (i : Nat) s, Γ'[i]? = some (some s) → Γ[i]? = some (some s)
  | [], [], _ => ⟨rfl, fun i s e => by simp at e⟩
  | none :: r, t :: r', h => by
    unfold subG at h
    obtain ⟨h1, h2⟩ := subG.at h
    refine ⟨by simp [h1], fun i s e => ?_⟩
    cases i with
    | zero => simp at e
    | succ i => simpa using h2 i s (by simpa using e)
  | some x :: r, t :: r', h => by
    unfold subG at h
    obtain ⟨rfl, h⟩ := h
    obtain ⟨h1, h2⟩ := subG.at h
    refine ⟨by simp [h1], fun i s e => ?_⟩
    cases i with
    | zero => simpa using e
    | succ i => simpa using h2 i s (by simpa using e)
  | [], _ :: _, h => h.elim
  | none :: _, [], h => h.elim
  | some _ :: _, [], h => h.elim
theorem nxt_of {n : Nat} {P : Gm → Sto → Prop} {Γ Γ' : Gm} {M M' : Sto} (hn : n ≤ M.length) (e : M.take n = M') (f : loMs n M') (g : subG Γ' Γ) (g2 : loG n Γ') (h : P Γ' M') : Nxt n P Γ M := by
  obtain ⟨e1, e2⟩ := g.at
  exact ⟨Γ', M', ⟨keep_lo hn e f, e1, fun i s q => ⟨s, e2 i s q, loS.ren (fun k h => keepR_lo k h) (g2.at i s q)⟩⟩, h⟩
/-- the end of a def whose result is data -/
theorem fin_lo {n : Nat} {r : S} {M M' : Sto} (hn : n ≤ M.length) (e : M.take n = M') (f : loMs n M') (hr : loS n r) : Fin n r M r M' := ⟨[], keep_lo hn e f, loS.ren (fun k h => keepR_lo k h) hr⟩
/-- a new object comes back -/
theorem fin_lop {n k : Nat} {m : MO} {M M0 : Sto} (hn : n ≤ k) (hk : M[k]? = some m) (e : M.take n = M0) (f : loMs n M0) (hm : loM n m) : Fin n (.p k) M (.p n) (M0 ++ [m]) := by
  have hl := (List.getElem?_eq_some_iff.mp hk).1
  subst e
  have hlen : (M.take n).length = n := by simp; omega
  refine ⟨[k], ⟨by simp; omega, by simp, fun j h => by simp at h; omega, by omega, fun j m' h e => ⟨m', ?_, loM.ren (fun k h => keepR_lo k h) (f.at m' (List.mem_of_getElem? (i := j) (by simp [List.getElem?_take, h, e])))⟩, fun i j m' h e => ?_⟩, .p ?_⟩
  · rw [List.getElem?_append_left (by omega), List.getElem?_take, if_pos h, e]
  · have hi : i = 0 := by
      have := (List.getElem?_eq_some_iff.mp h).1
      simpa using this
    subst hi
    simp at h
    subst h
    rw [hk] at e
    cases e
    refine ⟨m, ?_, loM.ren (fun k h => keepR_lo k h) hm⟩
    rw [List.getElem?_append_right (by omega), hlen]
    simp
  · unfold keepR
    rw [if_neg (by omega)]
    simp [List.idxOf?_cons]
theorem nxtM_of {n : Nat} {P : Sto → Prop} {M M' : Sto} (hn : n ≤ M.length) (e : M.take n = M') (f : loMs n M') (h : P M') : NxtM n P M := ⟨[], M', keep_lo hn e f, h⟩
end DL

namespace DL
open PySem PySem.Spec PyProof.Rows L2 DX
theorem OS.to {c : Cs} {f : Value → Value → Sem Value} {x y r r' : S} {M M1 M' : Sto} (h : OS c f x y M r M1) (hr : r = r') (hM : M1 = M') : OS c f x y M r' M' := by subst hr hM; exact h
theorem ex_to {c : Cs} {Γ : Gm} {M M1 M2 : Sto} {e : Expr} {r s : S} (h : EX c Γ M e r M1) (hr : r = s) (hM : M1 = M2) : EX c Γ M e s M2 := by subst hr hM; exact h
theorem et_to {c : Cs} {Γ : Gm} {M M1 M2 : Sto} {e : Expr} {r s : Bool} (h : ET c Γ M e r M1) (hr : r = s) (hM : M1 = M2) : ET c Γ M e s M2 := by subst hr hM; exact h
section
variable {c : Cs} {Γ : Gm} {M M1 M2 : Sto} {a b : Expr} {es : List Expr} {pos : Pos} {q : Bool}
theorem ew_orF (ha : ET c Γ M a false M1) (hb : EW c Γ M1 (.BoolOp .Or (b :: es) pos) q M2) : EW c Γ M (.BoolOp .Or (a :: b :: es) pos) q M2 := by
  constructor
  intro X H0 as0 o as σ H Q D k
  refine tW_of (pw_or (pT X a) (pW X _)) (ha.run X H0 as0 o as σ H _ D fun as1 H1 l1 D1 => ?_)
  rw [if_neg Bool.false_ne_true]
  exact hb.run X H0 as0 o as1 σ H1 Q (D.next l1 D1) fun as2 H2 l2 D2 => k as2 H2 (l1.trans l2) D2
theorem ew_orT (ha : ET c Γ M a true M1) : EW c Γ M (.BoolOp .Or (a :: b :: es) pos) true M1 := by
  constructor
  intro X H0 as0 o as σ H Q D k
  refine tW_of (pw_or (pT X a) (pW X _)) (ha.run X H0 as0 o as σ H _ D fun as1 H1 l1 D1 => ?_)
  rw [if_pos rfl]
  exact k as1 H1 l1 D1
theorem ew_andT (ha : ET c Γ M a true M1) (hb : EW c Γ M1 (.BoolOp .And (b :: es) pos) q M2) : EW c Γ M (.BoolOp .And (a :: b :: es) pos) q M2 := by
  constructor
  intro X H0 as0 o as σ H Q D k
  refine tW_of (pw_and (pT X a) (pW X _)) (ha.run X H0 as0 o as σ H _ D fun as1 H1 l1 D1 => ?_)
  rw [if_pos rfl]
  exact hb.run X H0 as0 o as1 σ H1 Q (D.next l1 D1) fun as2 H2 l2 D2 => k as2 H2 (l1.trans l2) D2
theorem ew_andF (ha : ET c Γ M a false M1) : EW c Γ M (.BoolOp .And (a :: b :: es) pos) false M1 := by
  constructor
  intro X H0 as0 o as σ H Q D k
  refine tW_of (pw_and (pT X a) (pW X _)) (ha.run X H0 as0 o as σ H _ D fun as1 H1 l1 D1 => ?_)
  rw [if_neg Bool.false_ne_true]
  exact k as1 H1 l1 D1
end
/-- the whole store stays -/
theorem fin_all {n : Nat} {r : S} {M : Sto} (hn : n ≤ M.length) (f : loMs M.length M) (hr : loS M.length r) : Fin n r M r M := by
  have hk : ∀ k, k < M.length → keepR n (List.range' n (M.length - n)) k = some k := fun k h => by
    unfold keepR
    by_cases q : k < n
    · rw [if_pos q]
    · rw [if_neg q]
      have e : (List.range' n (M.length - n))[k - n]? = some k := by
        rw [List.getElem?_range' (by omega)]
        congr 1
        omega
      rw [idxOf_nodup (List.nodup_range' ..) e]
      show some (n + (k - n)) = some k
      congr 1
      omega
  refine ⟨List.range' n (M.length - n), ⟨by rw [List.length_range']; omega, List.nodup_range' .., fun j h => ?_, hn, fun k m h e => ⟨m, e, loM.ren hk (f.at m (List.mem_of_getElem? e))⟩, fun i j m h e => ⟨m, ?_, loM.ren hk (f.at m (List.mem_of_getElem? e))⟩⟩, loS.ren hk hr⟩
  · rw [List.mem_range'] at h
    obtain ⟨i, h1, h2⟩ := h
    omega
  · have hi : i < M.length - n := by
      have := (List.getElem?_eq_some_iff.mp h).1
      rwa [List.length_range'] at this
    rw [List.getElem?_range' hi] at h
    have : n + i = j := by
      have := Option.some.inj h
      omega
    rw [this]
    exact e
/-! ### pointers moved on -/
mutual
def shS (n : Nat) : S → S
  | .d x => .d x
  | .v u => .v u
  | .p k => .p (n + k)
  | .t xs => .t (shL n xs)
  | .q b ds => .q b ds
def shL (n : Nat) : List S → List S
  | [] => []
  | x :: xs => shS n x :: shL n xs
end
def shK {κ : Type} (n : Nat) : List (κ × S) → List (κ × S)
  | [] => []
  | (k, x) :: xs => (k, shS n x) :: shK n xs
def shM (n : Nat) : MO → MO
  | .lst xs => .lst (shL n xs)
  | .rl xs => .rl (shL n xs)
  | .dk kvs => .dk (shK n kvs)
  | .dt kvs => .dt (shK n kvs)
  | .ins C fs => .ins C (shK n fs)
  | .xo C m s => .xo C m (shS n s)
  | .xk C s => .xk C (shS n s)
  | .xd fs => .xd (shK n fs)
  | .oth φ => .oth φ
def shMs (n : Nat) : List MO → List MO
  | [] => []
  | m :: r => shM n m :: shMs n r
section
variable {n : Nat} {ρ : Nat → Option Nat} (hρ : ∀ k, ρ k = some (n + k))
include hρ
mutual
theorem shS.ren : ∀ x : S, Ren ρ x (shS n x)
  | .d x => .d x
  | .v u => .v u
  | .p k => .p (hρ k)
  | .t xs => .t (shL.ren xs)
  | .q b ds => .q b ds
theorem shL.ren : ∀ xs : List S, Rens ρ xs (shL n xs)
  | [] => .nil
  | x :: xs => .cons (shS.ren x) (shL.ren xs)
end
theorem shK.ren {κ : Type} : ∀ xs : List (κ × S), Paired (fun p q => p.1 = q.1 ∧ Ren ρ p.2 q.2) xs (shK n xs)
  | [] => .nil
  | (k, x) :: xs => .cons ⟨rfl, shS.ren hρ x⟩ (shK.ren xs)
theorem shM.ren : ∀ m : MO, RenM ρ m (shM n m)
  | .lst xs => .lst (shL.ren hρ xs)
  | .rl xs => .rl (shL.ren hρ xs)
  | .dk xs => .dk (shK.ren hρ xs)
  | .dt xs => .dt (shK.ren hρ xs)
  | .ins _ xs => .ins (shK.ren hρ xs)
  | .xo _ _ s => .xo (shS.ren hρ s)
  | .xk _ s => .xk (shS.ren hρ s)
  | .xd xs => .xd (shK.ren hρ xs)
  | .oth φ => .oth φ
end
theorem shMs.length {n : Nat} : ∀ M : Sto, (shMs n M).length = M.length
  | [] => rfl
  | _ :: r => congrArg (· + 1) (shMs.length r)
theorem shMs.at {n : Nat} : ∀ {M : Sto} {i : Nat} {m : MO}, M[i]? = some m → (shMs n M)[i]? = some (shM n m)
  | [], _, _, e => by simp at e
  | a :: r, 0, m, e => by
    simp at e
    subst e
    rfl
  | a :: r, i + 1, m, e => by
    have := shMs.at (n := n) (M := r) (i := i) (by simpa using e)
    simpa [shMs] using this
/-- data in; new objects come out, behind those that stand -/
theorem proj_sh {ds : List PyData} {r' r : S} {M Mc' M2 : Sto} (er : shS M.length r' = r) (eM : M ++ shMs M.length Mc' = M2) : Proj [] (ds.map S.d) M (ds.map S.d) [] r' Mc' r M2 := by
  subst er eM
  have hρ : ∀ k, outR [] M.length k = some (M.length + k) := fun k => by
    unfold outR
    exact if_neg (Nat.not_lt_zero _)
  exact {
    nd := List.nodup_nil
    lt := fun _ h => absurd h List.not_mem_nil
    args := Rens.data _ _
    mc := rfl
    mi := fun i k m e => by simp at e
    len := Nat.zero_le _
    len' := by rw [List.length_append, shMs.length]; rfl
    r := shS.ren hρ r'
    old := fun k h _ => List.getElem?_append_left h
    back := fun i m j e eo => by
      rw [hρ] at eo
      cases eo
      exact ⟨shM M.length m, by rw [List.getElem?_append_right (by omega), Nat.add_sub_cancel_left]; exact shMs.at e, shM.ren hρ m⟩ }
end DL

namespace DL
open PySem PySem.Spec PyProof.Rows L2 DX
/-! ### the script: a list of the entry that nothing writes -/
def entS (K : PySem.W.Frag) (a : Addr) (ns : List Int) : Hp → List Addr → Prop := fun H0 as0 => as0 = [] ∧ SqL K H0 a (ns.map V.int)
section
variable {c : Cs} {Γ : Gm} {M M1 M2 M3 : Sto} {e b : Expr} {r : S} {p pos : Pos} {a : Addr} {ns : List Int}
theorem sq_now {X : Cx} {H0 H : Hp} {as0 as : List Addr} (o : OkE c X H0 as0) (hE : c.ent = entS c.K a ns) (D : DenM c.K c.T H0 as0 M as H) : SqL c.K H a (ns.map V.int) := by
  have q := o.ent
  rw [hE] at q
  obtain ⟨rfl, q⟩ := q
  have nn : ∀ u, (∀ ps, u ≠ .tbl ps) → H0 a = some u → H a = some u := fun u nt h => D.fr a u h nt fun z => by
    obtain ⟨l, e, hl⟩ := D.new
    rw [e, List.nil_append] at z
    rw [hl a z] at h
    cases h
  rcases q with q | q
  · rcases q with q | ⟨ob, q⟩
    · exact .inl (.inl (nn _ (fun _ z => nomatch z) q))
    · exact .inl (.inr ⟨ob, nn _ (fun _ z => nomatch z) q⟩)
  · exact .inr q
abbrev intsS (ns : List Int) : List S := ns.map fun n => .d (.int n)
theorem ints_sv {K : PySem.W.Frag} {H : Hp} {as : List Addr} : ∀ ns : List Int, SVs K H as (intsS ns) (ns.map V.int)
  | [] => .nil
  | n :: ns => .cons (.d (.int n)) (ints_sv ns)
theorem cs_sumV (hE : c.ent = entS c.K a ns) : CS c (.builtin "sum") [.v (.ref a)] M (.d (.int ns.sum)) M :=
  cs_of (fun X => rSum X.K) (fun X o => cr_sum o.calm) fun X H0 as0 o as H vs Q D sv q => by
    obtain ⟨v, rfl, s1⟩ := sv1 sv
    cases sv_v s1
    rw [o.K]
    exact ⟨_, ns, rfl, sq_now o hE D, q _ as H (Le.refl _ _) D (.d (.int _))⟩
/-- script[lo:hi] -/
theorem ex_slV {lo hi : Option Expr} {l h : Option Int} {p2 : Pos} {e : Expr} (hE : c.ent = entS c.K a ns) (ha : EX c Γ M e (.v (.ref a)) M1) (hl : EO c Γ M1 lo l M2) (hh : EO c Γ M2 hi h M3) : EX c Γ M (.Subscript e (.Slice lo hi none p2) pos) (.p M3.length) (M3 ++ [.lst (cutS (intsS ns) l h)]) := by
  constructor
  intro X H0 as0 o as σ H Q D w
  refine tE_of (pe_slice sl_list (pE X e) (pO X lo) (pO X hi)) ?_
  refine ha.run X H0 as0 o as σ H _ D fun u as1 H1 l1 D1 s1 => ?_
  refine hl.run o (D.next l1 D1) fun as2 H2 l2 D2 => ?_
  refine hh.run o (D.next (l1.trans l2) D2) fun as3 H3 l3 D3 => ?_
  cases sv_v s1
  rw [o.K]
  exact ⟨_, _, rfl, sq_now o hE D3, fun p hp => new_obj D3 hp no_lst (mok_lst hp (cut_sv (ints_sv ns))) no_oth fun z as4 H4 l4 D4 s4 => w z as4 H4 (((l1.trans l2).trans l3).trans l4) D4 s4⟩
end
/-- the law's promise -/
def spLaw (K : PySem.W.Frag) (T : Tb) : Sp := fun vs H Q _ => ∃ (a : Addr) (ns : List Int), vs = [.ref a] ∧ SqL K H a (ns.map V.int) ∧ LamX.Tabs T H ∧ ns.length ≤ 63 ∧ (∀ z ∈ ns, Builtin.Int.intBits z ≤ 1048576) ∧ ∀ H', Q (.bl true) H'
abbrev Ms.csE (m : Ms) (N : List Str) (sc : Scope) (k : Nat) (ent : Hp → List Addr → Prop) : Cs := ⟨m.P, m.w, m.K, m.T, m.mg, m.base, N, sc, k, fun _ => true, ent, fun _ _ => True⟩
theorem law_of {m : Ms} {st : Stmt} {f : Addr} {fd : FuncData} {N : List Str} {k : Nat} (F : Fun m.K "law" "law" st f fd) (S : FnScope N ["script"] (defScope st)) (hl : 1 ≤ N.length)
    (body : ∀ (a : Addr) (ns : List Int), ns.length ≤ 63 → (∀ z ∈ ns, Builtin.Int.intBits z ≤ 1048576) → BX (m.csE N (defScope st) k (entS m.K a ns)) (some (.v (.ref a)) :: List.replicate (N.length - 1) none) [] (defBody st) { nx := fun _ _ => False, rt := fun r _ => r = .d (.bool true) }) :
    FnG m.P m.w m.K m.mg m.base CX0 (k + 1) f fd ["script"] (spLaw m.K m.T) := by
  refine fun_okG F S (fun vs H Q E h => ?_) (fun cdv A outer s H vs Q E _ hr hgd h => ?_)
  · obtain ⟨a, ns, rfl, _⟩ := h
    rfl
  · obtain ⟨a, ns, rfl, hS, hT, h63, hb, q⟩ := h
    refine ⟨_, (pB (cxOf CX0 m.P m.w m.K m.mg m.base N "law" (defScope st) f cdv A outer s H E).nox (defBody st)).nox, ?_⟩
    have o : OkE (m.csE N (defScope st) k (entS m.K a ns)) (cxOf CX0 m.P m.w m.K m.mg m.base N "law" (defScope st) f cdv A outer s H E).nox H [] := ⟨⟨rfl, rfl, rfl, rfl, rfl, rfl, rfl, rfl, hr, hgd, S.nd, S.kind, own_never, fun _ _ => rfl⟩, ⟨rfl, hS⟩, trivial⟩
    have D0 : DenM m.K m.T H [] [] [] H := ⟨List.nodup_nil, rfl, ⟨[], rfl, fun _ h => absurd h List.not_mem_nil⟩, Tk.refl _, fun _ _ h _ _ => h, fun a ps e => ⟨#[], by rw [Array.append_empty]; exact e⟩, hT, fun k m a e => by simp at e, fun _ h => absurd h List.not_mem_nil, fun k φ e => by simp at e⟩
    refine (body a ns h63 hb).run _ H [] o [] (L2.start N [.ref a]) H _ ⟨D0, ?_, fun i t ht => ?_⟩ ⟨fun _ _ _ _ _ h => h.elim, fun r2 M2 as2 v H2 h l d s => ?_, fun _ _ _ _ _ h => h.elim, fun _ _ _ _ _ h => h.elim, ⟨_, LamX.takes0, fun _ _ _ _ _ _ _ _ h => h.elim⟩⟩
    · unfold L2.start
      simp
    · cases i with
      | zero =>
        simp at ht
        subst ht
        exact ⟨.ref a, start_at (i := 0) (N := N) (vs := [.ref a]) (Nat.zero_lt_one), .v _⟩
      | succ i =>
        simp [List.getElem?_replicate] at ht
    · subst h
      cases s with
      | d z =>
        cases z
        exact q H2
end DL
namespace DL
open PySem PySem.Spec PyProof.Rows L2 DX
/-- an object is handed in and comes back changed -/
theorem proj_set {ds : List PyData} {M : Sto} {k : Nat} {m m' : MO} {x : PyData} (hk : M[k]? = some m) (hm : loM 0 m) (hm' : loM 0 m') : Proj [k] (.p k :: ds.map S.d) M (.p 0 :: ds.map S.d) [m] (.d x) [m'] (.d x) (M.set k m') := by
  have hl := (List.getElem?_eq_some_iff.mp hk).1
  have i0 : DL.inR [k] k = some 0 := by simp [DL.inR, List.idxOf?_cons]
  have o0 : outR [k] M.length 0 = some k := rfl
  exact {
    nd := by simp
    lt := fun j hj => by
      simp at hj
      subst hj
      exact hl
    args := .cons (.p i0) (Rens.data _ _)
    mc := rfl
    mi := fun i j mm e em => by
      match i with
      | 0 =>
        simp at e
        subst e
        rw [hk] at em
        cases em
        exact ⟨_, rfl, loM.ren (fun k h => absurd h (Nat.not_lt_zero _)) hm⟩
      | i + 1 => simp at e
    len := Nat.le_refl _
    len' := by simp
    r := .d x
    old := fun j h hj => by
      simp at hj
      rw [List.getElem?_set_ne (Ne.symm hj)]
    back := fun i mm j e eo => by
      match i with
      | 0 =>
        rw [o0] at eo
        cases eo
        cases e
        exact ⟨_, List.getElem?_set_self hl, loM.ren (fun k h => absurd h (Nat.not_lt_zero _)) hm'⟩
      | i + 1 => simp at e }
theorem cutS_take (ns : List Int) (n : Nat) : cutS (intsS ns) none (some (n : Int)) = intsS (ns.take n) := by
  unfold cutS
  rw [HT.sIx_nat, HT.sIx_none, Nat.sub_zero, List.drop_zero]
  show _ = (ns.take n).map fun n => S.d (.int n)
  rw [List.map_take]
  show List.take (min n (intsS ns).length) (intsS ns) = List.take n (intsS ns)
  by_cases h : n ≤ (intsS ns).length
  · rw [Nat.min_eq_left h]
  · rw [Nat.min_eq_right (by omega), List.take_of_length_le (Nat.le_refl _), List.take_of_length_le (by omega)]
end DL

namespace DL
open PySem PySem.Spec PyProof.Rows L2 DX
theorem loMs_app {n : Nat} : ∀ {A B : Sto}, loMs n A → loMs n B → loMs n (A ++ B)
  | [], _, _, h => h
  | a :: A, _, h, g => ⟨h.1, loMs_app h.2 g⟩
mutual
theorem loS_mono {n k : Nat} (h : n ≤ k) : ∀ {x : S}, loS n x → loS k x
  | .d _, _ => trivial
  | .v _, _ => trivial
  | .p j, q => Nat.lt_of_lt_of_le (show j < n from q) h
  | .t xs, q => loL_mono h (xs := xs) q
  | .q _ _, _ => trivial
theorem loL_mono {n k : Nat} (h : n ≤ k) : ∀ {xs : List S}, loL n xs → loL k xs
  | [], _ => trivial
  | x :: xs, q => ⟨loS_mono h q.1, loL_mono h q.2⟩
end
theorem loM_mono {n k : Nat} (h : n ≤ k) : ∀ {m : MO}, loM n m → loM k m
  | .lst _, q => loL_mono h q
  | .rl _, q => loL_mono h q
  | .dk _, q => loL_mono h q
  | .dt _, q => loL_mono h q
  | .ins _ _, q => loL_mono h q
  | .xo _ _ _, q => loS_mono h q
  | .xk _ _, q => loS_mono h q
  | .xd _, q => loL_mono h q
  | .oth _, _ => trivial
theorem loMs_mono {n k : Nat} (h : n ≤ k) : ∀ {M : Sto}, loMs n M → loMs k M
  | [], _ => trivial
  | m :: M, q => ⟨loM_mono h q.1, loMs_mono h q.2⟩
theorem loL_of {n : Nat} : ∀ {xs : List S}, (∀ x ∈ xs, loS n x) → loL n xs
  | [], _ => trivial
  | x :: xs, h => ⟨h x List.mem_cons_self, loL_of fun y hy => h y (List.mem_cons_of_mem _ hy)⟩
section
variable {c : Cs} {Γ : Gm} {M W : Sto} {tg iter elt : Expr} {ifs : List Expr} {scope : Scope} {pos : Pos}
/-- [elt for tg in iter if ..], the parts leaving the store as it is -/
theorem ex_lcP {n : Nat} {G : Sto → Prop} {it : Nat → S} (own : List (Str × Nat)) (hi : IX c Γ M tg iter n G it W) (keep : Nat → Bool) (val : Nat → S) (hG : ∀ acc, G (W ++ [.lst acc])) (hn : n < 1000000) (lo : loMs W.length W) (lv : ∀ k, k < n → keep k = true → loS W.length (val k))
    (hs : ∀ k, k < n → ∀ acc, ∃ Γ1, GW (cB c scope) (own.map (·.2)) (wipeG Γ (own.map (·.2))) (W ++ [.lst acc]) tg (it k) Γ1 ∧ EI (cB c scope) Γ1 (W ++ [.lst acc]) ifs (keep k) (W ++ [.lst acc]) ∧ (keep k = true → EX (cB c scope) Γ1 (W ++ [.lst acc]) elt (val k) (W ++ [.lst acc])))
    (ok : blkC c.N c.sc scope own = true := by kernel_rfl) (hif : ifs.length ≤ 1 := by decide) (hf : ∀ env x, foldedSetIterable iter env x = pure x := by intro _ _; rfl) : EX c Γ M (.ListComp elt [⟨tg, iter, ifs, 0⟩] scope pos) (.p W.length) (W ++ [.lst (((List.range n).filter keep).map val)]) := by
  have hl : ∀ k, k ≤ n → (((List.range k).filter keep).map val).length < 1000000 := fun k hk => by
    rw [List.length_map]
    have := List.length_filter_le keep (List.range k)
    rw [List.length_range] at this
    omega
  have hlo : ∀ k, k ≤ n → loL (W.length + 1) (((List.range k).filter keep).map val) := fun k hk => loL_of fun x hx => by
    obtain ⟨j, hj, rfl⟩ := List.mem_map.mp hx
    obtain ⟨h1, h2⟩ := List.mem_filter.mp hj
    exact loS_mono (Nat.le_succ _) (lv j (by have := List.mem_range.mp h1; omega) h2)
  have hW : ∀ acc, loL (W.length + 1) acc → loMs (W ++ [MO.lst acc]).length (W ++ [.lst acc]) := fun acc h => by
    rw [List.length_append, List.length_singleton]
    exact loMs_app (loMs_mono (Nat.le_succ _) lo) ⟨h, trivial⟩
  refine ex_lc own hi (fun k M => k ≤ n ∧ M = W ++ [.lst (((List.range k).filter keep).map val)]) ⟨Nat.zero_le _, rfl⟩ (fun k M _ h => by rw [h.2]; exact hG _) ?_ (fun M h => h.2) ok hif hf
  rintro k M hk ⟨-, rfl⟩
  obtain ⟨Γ1, g, e1, e2⟩ := hs k hk (((List.range k).filter keep).map val)
  have l2 : ∀ a b, (W ++ [MO.lst a]).length = (W ++ [MO.lst b]).length := fun _ _ => by simp
  refine ⟨Γ1, g, keep k, _, e1, fun q => ⟨_, _, e2 q, _, by simp, hl k (Nat.le_of_lt hk), ?_⟩, fun q => ?_⟩
  · refine nxtM_of (M' := W ++ [.lst (((List.range (k + 1)).filter keep).map val)]) (by simp) ?_ (by rw [l2 _ (((List.range (k + 1)).filter keep).map val)]; exact hW _ (hlo (k + 1) hk)) ⟨hk, rfl⟩
    rw [List.range_succ, List.filter_append, List.map_append]
    simp [q]
    exact List.take_of_length_le (by simp)
  · refine nxtM_of (M' := W ++ [.lst (((List.range (k + 1)).filter keep).map val)]) (Nat.le_refl _) ?_ (by rw [l2 _ (((List.range (k + 1)).filter keep).map val)]; exact hW _ (hlo (k + 1) hk)) ⟨hk, rfl⟩
    rw [List.range_succ, List.filter_append, List.map_append]
    simp [q]
    exact List.take_of_length_le (by simp)
end
end DL
namespace DL
open PySem PySem.Spec PyProof.Rows L2 DX
/-- the same, the length of the store told -/
theorem proj_shn {ds : List PyData} {r' r : S} {M Mc' M2 : Sto} (n : Nat) (hn : M.length = n) (er : shS n r' = r) (eM : M ++ shMs n Mc' = M2) : Proj [] (ds.map S.d) M (ds.map S.d) [] r' Mc' r M2 := by
  subst hn
  exact proj_sh er eM
end DL

namespace DL
open PySem PySem.Spec PyProof.Rows L2 DX
/-! ### what raises -/
/-- a def's own context -/
structure Pf (X : Cx) (H0 : Hp) : Prop where
  ex : X.ex = []
  st : X.stack = X.env :: X.outer
  fr : X.env.frame = some X.env.locals
  h0 : X.H_0 = H0
section
variable {K : PySem.W.Frag} {T : Tb} {H0 H : Hp} {as0 as : List Addr} {M : Sto}
theorem _root_.DX.Tr.tp {a : Addr} {o : HO} (t : Tr a o) (p : Tp o) : False := by
  rcases p with ⟨xs, z⟩ | ⟨b, xs, z⟩
  · exact t.tup xs z
  · exact t.fz b xs z
/-- an object that no one of the store points to is forgotten -/
theorem DenM.del (D : DenM K T H0 as0 M as H) {a : Addr} {o : HO} (ha : H a = some o) (tr : Tr a o) (n : a ∉ as) (h0 : H0 a = none) : DenM K T H0 as0 M as (delH H a) := by
  have t : Tk H (delH H a) := fun b xs tp e => by
    have nb : b ≠ a := fun z => by
      rw [z, ha] at e
      cases e
      exact tr.tp tp
    rw [delH_ne nb]
    exact e
  have ne0 : ∀ b o, H0 b = some o → b ≠ a := fun b o e z => by
    rw [z, h0] at e
    cases e
  have nin : ∀ b ∈ as, b ≠ a := fun b hb z => n (z ▸ hb)
  refine ⟨D.nd, D.len, D.new, D.le.trans t, fun b u e nt hb => ?_, fun b ps e => ?_, ?_, fun j m b e1 e2 => ?_, fun b hb => ?_, D.st⟩
  · rw [delH_ne (ne0 b u e)]
    exact D.fr b u e nt hb
  · obtain ⟨m, q⟩ := D.tb b ps e
    exact ⟨m, by rw [delH_ne (ne0 b _ e)]; exact q⟩
  · intro p hp
    obtain ⟨ps, t1, t2, t3⟩ := D.tab p hp
    have n1 : p.1 ≠ a := fun z => by
      rw [z, ha] at t1
      exact tr.tbl _ (Option.some.inj t1)
    refine ⟨ps, by rw [delH_ne n1]; exact t1, t2, fun pos cv hc => ?_⟩
    obtain ⟨c, e1, e2⟩ := t3 pos cv hc
    have n2 : c ≠ a := fun z => by
      rw [z, ha] at e2
      exact tr.cod _ (Option.some.inj e2)
    exact ⟨c, e1, by rw [delH_ne n2]; exact e2⟩
  · have nb := nin b (List.mem_of_getElem? e2)
    exact MOk.le (.h t) (delH_ne nb) (fun φ e z => by subst e; exact D.st j φ e1 H _ b z (delH_ne nb)) (D.mem j m b e1 e2)
  · obtain ⟨u, e, q⟩ := D.there b hb
    exact ⟨u, by rw [delH_ne (nin b hb)]; exact e, q⟩
end
/-- what gives a new exception with its dict back makes an exception -/
theorem pmk_m {X : Cx} {e : Expr} {te : TE} (hx : X.ex = []) (he : PE X e te) :
    PMk X e (fun σ H Q => te σ H fun x H1 => ∃ a C t d, x = .ref a ∧ H1 a = some (exm a C t d) ∧ Fr0 X.H_0 a ∧ Raises X (.ref C) ∧ Q (.ref C) d (delH H1 a)) := by
  intro pins s σ H Q I h
  refine wpAny_mono (he.run pins s σ H _ I h) (fun u s1 hu => ?_) fun _ _ x => x
  obtain ⟨v, H1, I1, r1, a, C, t, d, rfl, ha, h0, hr, q⟩ := hu
  cases r1
  have ho := exm_at I1.hok ha
  obtain ⟨G, gs, ga, J⟩ := I1.untrack (φ := fun h => h.get? a = some ({ cls := .ref C, dict := d, data := .fields #[.ref t, .none, .none, .none, .bool false, .none] } : Obj)) ha h0 hx
  exact ⟨a, _, _, { s1 with heap := G }, delH H1 a, .ref C, d, rfl, J, gs, ga, ho, ⟨rfl, rfl⟩, rfl, rfl, delH_same, rfl, I1.bare, hr, q⟩
section
variable {c : Cs} {Γ : Gm} {M M1 M2 : Sto} {e a b : Expr} {es : List Expr} {r : S} {pos p : Pos} {N : Nd} {C : Addr} {k : Nat}
theorem XqC.raises {K : PySem.W.Frag} {C : Addr} (T : XqC K C) (ty : PySem.W.typeIn K (.ref C) = some (.type "type")) {X : Cx} (h : X.K = K) : Raises X (.ref C) := raises_own (by rw [h]; exact T.sb) (by rw [h]; exact ty)
/-- raise e, e a new exception -/
theorem sx_raise {msg : Str} {d : Nat} (hp : ∀ X H0, c.px X H0 → Pf X H0) (T : XqC c.K C) (ty : PySem.W.typeIn c.K (.ref C) = some (.type "type")) (he : EX c Γ M e (.p M2.length) (M2 ++ [.xo C msg (.p d)])) (hM : M.length ≤ M2.length) (lo : loMs M2.length M2) (hd : d < M2.length) (hq : N.xc Γ C d M2) :
    SX c Γ M (.Raise (some e) none pos) N := by
  constructor
  intro X H0 as0 o as σ H D den f
  have pf := hp X H0 o.px
  obtain ⟨W, tk, hW⟩ := f.xc
  refine tS_of (ps_raise o.calm tk (pmk_m pf.ex (pE X e))) ?_
  refine he.run X H0 as0 o as σ H _ den fun v as1 H1 l1 D1 s1 => ?_
  cases s1 with
  | p ea =>
    rename_i x
    have em : (M2 ++ [MO.xo C msg (.p d)])[M2.length]? = some (.xo C msg (.p d)) := by simp
    obtain ⟨dd, t, sd, hx, ht⟩ := D1.mem _ _ _ em ea
    have lm : as1.length = M2.length + 1 := by rw [D1.len]; simp
    have l0 := den.m.le0
    have h0 : H0 x = none := by
      obtain ⟨l, e1, hl⟩ := D1.new
      refine hl x ?_
      rw [e1, List.getElem?_append_right (by omega)] at ea
      exact List.mem_of_getElem? ea
    have hn : x ∉ as1.take M2.length := fun z => by
      obtain ⟨i, hi, ei⟩ := List.mem_iff_getElem.mp z
      rw [List.length_take] at hi
      rw [List.getElem_take] at ei
      obtain ⟨h1, q1⟩ := List.getElem?_eq_some_iff.mp ea
      have := (List.getElem_inj D1.nd).mp (ei.trans q1.symm)
      omega
    refine ⟨x, C, t, some dd, rfl, hx, ?_, XqC.raises T ty o.K, ?_⟩
    · rw [pf.h0]
      exact fr0_none h0
    · have D2 : DenM c.K c.T H0 as0 M2 (pick as1 M2.length []) H1 := D1.keep (by omega) (keep_lo (M := M2 ++ [MO.xo C msg (.p d)]) (n := M2.length) (by simp) (by simp) lo)
      have ep : pick as1 M2.length [] = as1.take M2.length := by unfold pick; simp
      rw [ep] at D2
      have D3 := D2.del hx Tr.exm hn h0
      have hle : Le as H (as1.take M2.length) (delH H1 x) := by
        refine ⟨?_, l1.tk.trans fun b xs tp eb => ?_⟩
        · obtain ⟨tl, et⟩ := l1.pre
          have ha := den.m.len
          rw [← et, List.take_append, List.take_of_length_le (by omega)]
          exact List.prefix_append _ _
        · rw [delH_ne fun z => by rw [z, hx] at eb; cases eb; exact Tr.exm.tp tp]
          exact eb
      refine hW Γ C d M2 (as1.take M2.length) _ _ dd hq hle (den.next hle D3) ?_
      cases sd with
      | p ed => rw [List.getElem?_take, if_pos hd]; exact ed
/-! ### statements whose expression raises -/
theorem sx_setR (i : Nat) {v : Str} {pos' : Pos} (he : ER c Γ M e C k M1) (hq : N.xc Γ C k M1) (hi : c.N[i]? = some v := by rfl) (hx : Loc c.sc v := by first | exact Or.inl rfl | exact Or.inr rfl) (hf : c.own v = true ∨ c.sc.names.lookup v = some .local := by first | exact Or.inl rfl | exact Or.inr rfl)
    (hs : ∀ env, env.scope = c.sc → swapsWith e (some (.Name v pos')) pos.line env = pure false := by intro _ _; rfl) : SX c Γ M (.Assign [.Name v pos'] e pos) N := by
  constructor
  intro X H0 as0 o as σ H D d f
  obtain ⟨W, tk, hW⟩ := f.xc
  refine tS_of (ps_set o.nd' (i := i) (by rw [o.N]; exact hi) (by rw [o.sc]; exact hx) (pE X e) (hs _ o.sc) (fn_ok o hf)) ?_
  exact he.run X H0 as0 o as σ H W tk d (fun as1 H1 dd l1 D1 e1 => hW Γ C k M1 as1 _ H1 dd hq l1 (d.next l1 D1) e1) _
theorem sx_exprR (he : ER c Γ M e C k M1) (hq : N.xc Γ C k M1) (hs : ∀ env, swapsWith e none pos.line env = pure false := by intro _; rfl) : SX c Γ M (.Expr e pos) N := by
  constructor
  intro X H0 as0 o as σ H D d f
  obtain ⟨W, tk, hW⟩ := f.xc
  refine tS_of (ps_expr (pE X e) (hs _)) ?_
  exact he.run X H0 as0 o as σ H W tk d (fun as1 H1 dd l1 D1 e1 => hW Γ C k M1 as1 _ H1 dd hq l1 (d.next l1 D1) e1) _
theorem sx_retR (he : ER c Γ M e C k M1) (hq : N.xc Γ C k M1) : SX c Γ M (.Return (some e) pos) N := by
  constructor
  intro X H0 as0 o as σ H D d f
  obtain ⟨W, tk, hW⟩ := f.xc
  refine tS_of (ps_ret (pE X e)) ?_
  exact he.run X H0 as0 o as σ H W tk d (fun as1 H1 dd l1 D1 e1 => hW Γ C k M1 as1 _ H1 dd hq l1 (d.next l1 D1) e1) _
/-! ### expressions a part of which raises -/
theorem ear_here (ha : ER c Γ M e C k M1) (hs : ∀ env, starEach (e :: es) env = (false, eval e env) :: starEach es env := by intro _; rfl) : EAR c Γ M (e :: es) C k M1 := by
  constructor
  intro X H0 as0 o as σ H W tk D hq Q
  refine tA_of (pa_cons (pE X e) (pA X es) (hs _)) ?_
  exact ha.run X H0 as0 o as σ H W tk D hq _
theorem ear_next (ha : EX c Γ M e r M1) (hr : EAR c Γ M1 es C k M2) (hs : ∀ env, starEach (e :: es) env = (false, eval e env) :: starEach es env := by intro _; rfl) : EAR c Γ M (e :: es) C k M2 := by
  constructor
  intro X H0 as0 o as σ H W tk D hq Q
  refine tA_of (pa_cons (pE X e) (pA X es) (hs _)) ?_
  refine ha.run X H0 as0 o as σ H _ D fun u as1 H1 l1 D1 s1 => ?_
  exact hr.run X H0 as0 o as1 σ H1 W tk (D.next l1 D1) (fun as2 H2 d l2 D2 e2 => hq as2 H2 d (l1.trans l2) D2 e2) _
theorem er_binL {op : Operator} (ha : ER c Γ M a C k M1) (hR : ∀ X, OkX c X → ∃ R, OpR X (binaryOp op) R) : ER c Γ M (.BinOp a op b pos) C k M1 := by
  constructor
  intro X H0 as0 o as σ H W tk D hq Q
  obtain ⟨R, hR⟩ := hR X o
  refine tE_of (pe_op hR (pE X a) (pE X b)) ?_
  exact ha.run X H0 as0 o as σ H W tk D hq _
end
/-! ### functions that may raise -/
/-- how a call ends -/
inductive Oc where
  | val (r : S)
  | exc (C : Addr) (k : Nat)
abbrev Rx := List S → Sto → Oc → Sto → Prop
def spX (K : PySem.W.Frag) (T : Tb) (n : Nat) (R : Rx) : Sp := fun vs H Q E => ∃ args M as o M', args.length = n ∧ R args M o M' ∧ DenM K T H as M as H ∧ SVs K H as args vs ∧
  match o with
  | .val r => ∀ v as' H', Le as H as' H' → DenM K T H as M' as' H' → SV K H' as' r v → Q v H'
  | .exc C k => ∀ as' H' d, Le as H as' H' → DenM K T H as M' as' H' → as'[k]? = some d → E (.ref C) (some d) H'
def FnX (m : Ms) (k : Nat) (x : Str) (ps : List Str) (R : Rx) : Prop :=
  ∃ f fd, m.mg x = some (.ref f) ∧ PySem.W.keepIn m.K (.ref f) = true ∧ Binds m.K fd ps [] ∧ FnG m.P m.w m.K m.mg m.base (L2.CX m.P m.w) k f fd ps (spX m.K m.T ps.length R)
/-- where it ends with a value, it is as a def that doesn't raise -/
theorem FnX.d {m : Ms} {k : Nat} {x : Str} {ps : List Str} {R : Rx} (F : FnX m k x ps R) : FnD m k x ps (fun args M r M' => R args M (.val r) M') := by
  obtain ⟨f, fd, h1, h2, h3, F⟩ := F
  refine ⟨f, fd, h1, h2, h3, fun vs H Q E ⟨args, M, as, r, M', e, _, _, sv, _⟩ => by rw [← sv.length, e], fun A outer s H args us vs Q E hr hgd e0 hb hv ⟨gs, M, as, r, M', e, hR, D, sv, q⟩ => ?_⟩
  refine codeAny_mono (F.run A outer s H args us vs Q (fun _ _ _ => False) hr hgd e0 hb hv ⟨gs, M, as, .val r, M', e, hR, D, sv, q⟩) fun r s' h => ?_
  cases r with
  | ok f => cases f <;> exact h
  | error e =>
    obtain ⟨_, _, _, _, _, _, _, _, _, _, _, _, z⟩ := h
    exact z
/-- behind a raise: the objects that go out -/
def FinX (n : Nat) (k' : Nat) (M'' : Sto) (k : Nat) (M' : Sto) : Prop := ∃ js, Keep n js M'' M' ∧ keepR n js k' = some k
abbrev Ms.csX (m : Ms) (N : List Str) (sc : Scope) (k : Nat) : Cs := ⟨m.P, m.w, m.K, m.T, m.mg, m.base, N, sc, k, fun _ => true, fun _ _ => True, Pf⟩
theorem px_csX {m : Ms} {N : List Str} {sc : Scope} {k : Nat} : ∀ X H0, (m.csX N sc k).px X H0 → Pf X H0 := fun _ _ h => h
theorem fnX_of {m : Ms} {x : Str} {st : Stmt} {ps N : List Str} {R : Rx} {k : Nat} (h : HasD m x st ps) (S : FnScope N ps (defScope st)) (hl : ps.length ≤ N.length)
    (body : ∀ args M o M', args.length = ps.length → R args M o M' → BX (m.csX N (defScope st) k) (args.map some ++ List.replicate (N.length - ps.length) none) M (defBody st)
      (match o with
      | .val r => { nx := fun _ M'' => Fin M.length (.d .none) M'' r M', rt := fun r' M'' => Fin M.length r' M'' r M' }
      | .exc C j => { nx := fun _ _ => False, rt := fun _ _ => False, xc := fun _ C' j' M'' => C' = C ∧ FinX M.length j' M'' j M' })) : FnX m (k + 1) x ps R := by
  obtain ⟨f, fd, hm, F, hb⟩ := h
  refine ⟨f, fd, hm, F.kp, hb, fun_okG F S (fun vs H Q E h => ?_) (fun cdv A outer s H vs Q E _ hr hgd h => ?_)⟩
  · obtain ⟨args, M, as, r, M', e, _, _, sv, _⟩ := h
    rw [← sv.length, e]
  · obtain ⟨args, M, as, oc, M', e, hR, D, sv, k1⟩ := h
    refine ⟨_, pB _ (defBody st), ?_⟩
    have hx : (cxOf (L2.CX m.P m.w) m.P m.w m.K m.mg m.base N x (defScope st) f cdv A outer s H E).xe = fun e s' => wpAny (model m.P m.w) (A.deeper (envOfC x (defScope st) s.heap.objs.size f cdv)) (leaving (envOfC x (defScope st) s.heap.objs.size f cdv) e)
        (fun _ s'' => L2.CX m.P m.w outer H s E e s'') (fun e' s'' => L2.CX m.P m.w outer H s E e' s'') s' := rfl
    have o : OkE (m.csX N (defScope st) k) (cxOf (L2.CX m.P m.w) m.P m.w m.K m.mg m.base N x (defScope st) f cdv A outer s H E) H as :=
      ⟨⟨rfl, rfl, rfl, rfl, rfl, rfl, rfl, rfl, hr, hgd, S.nd, S.kind, PassesOwn.leaving, fun _ _ => rfl⟩, trivial, rfl, rfl, rfl, rfl⟩
    have tk : Takes (cxOf (L2.CX m.P m.w) m.P m.w m.K m.mg m.base N x (defScope st) f cdv A outer s H E) (fun cls d _ H => E cls d H) := takes_of rfl rfl rfl rfl
    have pre_ : ∀ {js : List Nat} {as' : List Addr} {H' : Hp}, Le as H as' H' → as <+: pick as' M.length js := fun {js as' H'} l => pick_pre l.pre D.len
    have hv : vs.length = ps.length := by rw [← sv.length, e]
    have D0 : Den m.K m.T H as (args.map some ++ List.replicate (N.length - ps.length) none) M as (L2.start N vs) H := by
      refine ⟨D, ?_, fun i t ht => ?_⟩
      · unfold L2.start
        simp only [List.length_append, List.length_map, List.length_replicate, e, hv]
      · have hi : i < args.length := by
          by_cases q : i < args.length
          · exact q
          · rw [List.getElem?_append_right (by simpa using q), List.getElem?_replicate] at ht
            split at ht <;> cases ht
        rw [List.getElem?_append_left (by simpa using hi), List.getElem?_map, List.getElem?_eq_getElem hi] at ht
        cases ht
        obtain ⟨v, e1, e2⟩ := sv.at (List.getElem?_eq_getElem hi)
        refine ⟨v, ?_, e2⟩
        have hi' : i < vs.length := by omega
        rw [start_at hi']
        rw [List.getElem?_eq_getElem hi'] at e1
        rw [Option.some.inj e1]
    have bd := body args M oc M' e hR
    cases oc with
    | val r =>
      have fin : ∀ r' M'' as' v H', Fin M.length r' M'' r M' → Le as H as' H' → DenM m.K m.T H as M'' as' H' → SV m.K H' as' r' v → Q v H' := by
        rintro r' M'' as' v H' ⟨js, kp, rn⟩ l d s
        exact k1 v _ H' ⟨pre_ l, l.tk⟩ (d.keep (Nat.le_of_eq D.len) kp) (s.ren (pick_ok d.len kp) rn)
      exact bd.run _ H as o as (L2.start N vs) H _ D0 ⟨fun Γ2 M2 as2 σ2 H2 h l d => fin _ M2 as2 _ H2 h l d.m (.d .non), fun r2 M2 as2 v H2 h l d s => fin _ M2 as2 _ H2 h l d s, fun _ _ _ _ _ h => h.elim, fun _ _ _ _ _ h => h.elim, ⟨_, LamX.takes0, fun _ _ _ _ _ _ _ _ h => h.elim⟩⟩
    | exc C j =>
      refine bd.run _ H as o as (L2.start N vs) H _ D0 ⟨fun _ _ _ _ _ h => h.elim, fun _ _ _ _ _ h => h.elim, fun _ _ _ _ _ h => h.elim, fun _ _ _ _ _ h => h.elim, ⟨_, tk, fun Γ2 C' j' M2 as2 σ2 H2 d h l d2 ed => ?_⟩⟩
      obtain ⟨rfl, js, kp, ek⟩ := h
      exact k1 _ H2 d ⟨pre_ l, l.tk⟩ (d2.m.keep (Nat.le_of_eq D.len) kp) (pick_ok d2.m.len kp j' j ek d ed)
end DL

namespace DL
open PySem PySem.Spec PyProof.Rows L2 DX
/-! ### calls of what may raise -/
section
variable {c : Cs} {Γ : Gm} {M M1 M2 Mc Mc' : Sto} {e : Expr} {es : List Expr} {r r' : S} {rs args : List S} {p pos : Pos} {x : Str} {ps : List Str} {R : Rx} {j k k' : Nat} {C : Addr}
theorem ex_callX (ks : List Nat) (F : FnX c.ms j x ps R) (ha : EA c Γ M (e :: es) rs M1) (hR : R args Mc (.val r') Mc') (hp : Proj ks rs M1 args Mc r' Mc' r M2) (hl : rs.length = ps.length) (hj : j ≤ c.k := by exact Nat.le_of_ble_eq_true rfl) (hg : c.sc.names.lookup x = some gI := by rfl)
    (hdb : (x == ("__debug__" : Str)) = false := by decide) (he : ∀ env, starEach (e :: es) env = (false, eval e env) :: starEach es env := by intro _; rfl) (hpl : ∀ env, (backTo pos (starEach es env)).any (·.1) = false := by intro _; rfl) :
    EX c Γ M (.Call (.Name x p) (e :: es) [] pos) r M2 := ex_call ks F.d ha hR hp hl hj hg hdb he hpl
theorem er_call (ks : List Nat) (F : FnX c.ms j x ps R) (ha : EA c Γ M (e :: es) rs M1) (hR : R args Mc (.exc C k') Mc') (hp : Proj ks rs M1 args Mc (.p k') Mc' (.p k) M2) (hl : rs.length = ps.length) (hj : j ≤ c.k := by exact Nat.le_of_ble_eq_true rfl) (hg : c.sc.names.lookup x = some gI := by rfl)
    (hdb : (x == ("__debug__" : Str)) = false := by decide) (he : ∀ env, starEach (e :: es) env = (false, eval e env) :: starEach es env := by intro _; rfl) (hpl : ∀ env, (backTo pos (starEach es env)).any (·.1) = false := by intro _; rfl) :
    ER c Γ M (.Call (.Name x p) (e :: es) [] pos) C k M2 := by
  constructor
  intro X H0 as0 o as σ H W tk D hq Q
  obtain ⟨f, fd, hm, hk, hb, G⟩ := F
  have G' : FnG X.prog X.w X.K X.mg X.base (L2.CX X.prog X.w) j f fd ps (spX c.K c.T ps.length R) := by
    rw [o.P, o.w, o.K, o.mg, o.base]
    exact G
  refine tE_of (pe_callG (E := fun σ cls d H => W cls d σ H) (G'.mono hj) o.room o.gd (gl_ok o hg) (by rw [o.mg]; exact hm) (by rw [o.K]; exact hk) (by rw [o.K]; exact hb) (fun σ => passAt tk σ) (pA X _) hdb (he _) (hpl _)) ?_
  refine ha.run X H0 as0 o as σ H _ D fun vs as1 H1 l1 D1 s1 => ?_
  refine ⟨args, Mc, sel as1 ks, .exc C k', Mc', ?_, hR, D1.enter hp, s1.ren (inR_ok hp.nd fun k h => by rw [D1.len]; exact hp.lt k h) hp.args, fun asc H2 d l2 CC ed => ?_⟩
  · rw [← hp.args.length, hl]
  · obtain ⟨as2, l3, D2, ok⟩ := D1.back hp l2 CC
    have q := hp.r
    cases q with
    | p q => exact hq as2 H2 d (l1.trans l3) D2 (ok k' k q d ed)
/-- an argument raises -/
theorem er_callA {R' : Rl} (F : FnD c.ms j x ps R') (ha : EAR c Γ M (e :: es) C k M1) (hj : j ≤ c.k := by exact Nat.le_of_ble_eq_true rfl) (hg : c.sc.names.lookup x = some gI := by rfl)
    (hdb : (x == ("__debug__" : Str)) = false := by decide) (he : ∀ env, starEach (e :: es) env = (false, eval e env) :: starEach es env := by intro _; rfl) (hpl : ∀ env, (backTo pos (starEach es env)).any (·.1) = false := by intro _; rfl) :
    ER c Γ M (.Call (.Name x p) (e :: es) [] pos) C k M1 := by
  constructor
  intro X H0 as0 o as σ H W tk D hq Q
  obtain ⟨f, fd, hm, hk, hb, G⟩ := F
  have G' : FnG X.prog X.w X.K X.mg X.base CX0 j f fd ps (spD c.K c.T ps.length R') := by
    rw [o.P, o.w, o.K, o.mg, o.base]
    exact G
  refine tE_of (pe_callG (E := fun _ _ _ _ => False) (G'.mono hj) o.room o.gd (gl_ok o hg) (by rw [o.mg]; exact hm) (by rw [o.K]; exact hk) (by rw [o.K]; exact hb) (fun _ => passAt0') (pA X _) hdb (he _) (hpl _)) ?_
  exact ha.run X H0 as0 o as σ H W tk D hq _
/-- an exception goes on to the caller with its data -/
theorem proj_x {ds : List PyData} {M : Sto} {f : Str} {d : PyData} : Proj [] (ds.map S.d) M (ds.map S.d) [] (.p 0) [.xd [(f, .d d)]] (.p M.length) (M ++ [.xd [(f, .d d)]]) := proj_n (.xd (.cons ⟨rfl, .d d⟩ .nil))
end
/-! ### clauses of a try -/
/-- a context in which an exception may be handled -/
structure OkH (c : Cs) (X : Cx) : Prop where
  P : X.prog = c.P
  w : X.w = c.w
  K : X.K = c.K
  mg : X.mg = c.mg
  base : X.base = c.base
  N : X.N = c.N
  sc : X.env.scope = c.sc
  nd : c.N.Nodup
  fn : ∀ x, c.own x = true → X.fn x = true
theorem OkX.h {c : Cs} {X : Cx} (o : OkX c X) : OkH c X := ⟨o.P, o.w, o.K, o.mg, o.base, o.N, o.sc, o.nd, o.fn⟩
structure HE (c : Cs) (Γ : Gm) (M : Sto) (e : Expr) (r : S) (M' : Sto) : Prop where
  run : ∀ X H0 as0, OkH c X → ∀ as σ H Q, Den c.K c.T H0 as0 Γ M as σ H → (∀ v as' H', Le as H as' H' → DenM c.K c.T H0 as0 M' as' H' → SV c.K H' as' r v → Q v H') → tE X e σ H Q
structure HA (c : Cs) (Γ : Gm) (M : Sto) (es : List Expr) (rs : List S) (M' : Sto) : Prop where
  run : ∀ X H0 as0, OkH c X → ∀ as σ H Q, Den c.K c.T H0 as0 Γ M as σ H → (∀ vs as' H', Le as H as' H' → DenM c.K c.T H0 as0 M' as' H' → SVs c.K H' as' rs vs → Q vs H') → tA X es σ H Q
structure HS (c : Cs) (Γ : Gm) (M : Sto) (st : List Stmt) (nx : Gm → Sto → Prop) (rt : S → Sto → Prop) : Prop where
  run : ∀ X H0 as0, OkH c X → ∀ as σ H D, Den c.K c.T H0 as0 Γ M as σ H → (∀ Γ' M' as' σ' H', nx Γ' M' → Le as H as' H' → Den c.K c.T H0 as0 Γ' M' as' σ' H' → D.nx σ' H') →
    (∀ r M' as' v H', rt r M' → Le as H as' H' → DenM c.K c.T H0 as0 M' as' H' → SV c.K H' as' r v → D.rt v H') → tB X st D σ H
section
variable {c : Cs} {Γ : Gm} {M M1 M2 : Sto} {e : Expr} {r s x : S} {pos p : Pos} {k j : Nat} {C : Addr} {f : Str} {fs : List (Str × S)} {nx : Gm → Sto → Prop} {rt : S → Sto → Prop}
theorem he_var (i : Nat) {x : Str} (hN : c.N[i]? = some x := by rfl) (hΓ : Γ[i]? = some (some s) := by rfl) (hv : Vis c.sc x := by first | exact Or.inl rfl | exact Or.inr (Or.inl rfl) | exact Or.inr (Or.inr rfl))
    (hd : (x == ("__debug__" : Str)) = false := by decide) (hcd : (x == ("__classdict__" : Str)) = false := by decide) : HE c Γ M (.Name x pos) s M := by
  constructor
  intro X H0 as0 o as σ H Q D k
  refine tE_of (pe_var (i := i) (by rw [o.N]; exact hN) (by rw [o.sc]; exact hv) hd hcd) ?_
  obtain ⟨v, h1, h2⟩ := D.loc i s hΓ
  exact ⟨v, h1, k v as H (Le.refl _ _) D.m h2⟩
theorem he_str {i : Str} {j : Nat} : HE c Γ M (.Constant (.str i) j pos) (.d (.str i)) M := by
  constructor
  intro X H0 as0 o as σ H Q D k
  exact tE_of pe_str (k _ as H (Le.refl _ _) D.m (.d (.str i)))
theorem ha_nil : HA c Γ M [] [] M := by
  constructor
  intro X H0 as0 o as σ H Q D k
  exact tA_of pa_nil (k [] as H (Le.refl _ _) D.m .nil)
theorem ha_cons {es : List Expr} {rs : List S} (ha : HE c Γ M e x M1) (hr : HA c Γ M1 es rs M2) (hs : ∀ env, starEach (e :: es) env = (false, eval e env) :: starEach es env := by intro _; rfl) : HA c Γ M (e :: es) (x :: rs) M2 := by
  constructor
  intro X H0 as0 o as σ H Q D k
  refine tA_of (pa_cons (pE X e) (pA X es) (hs _)) ?_
  refine ha.run X H0 as0 o as σ H _ D fun u as1 H1 l1 D1 s1 => ?_
  exact hr.run X H0 as0 o as1 σ H1 _ (D.next l1 D1) fun us as2 H2 l2 D2 s2 => k _ as2 H2 (l1.trans l2) D2 (.cons (s1.le l2) s2)
theorem he_tup {es : List Expr} {rs : List S} {k0} (h : HA c Γ M es rs M1) (hl : rs.length ≤ 1000) : HE c Γ M (.Tuple es k0 pos) (mkT rs) M1 := by
  constructor
  intro X H0 as0 o as σ H Q D k
  refine tE_of (pe_tup (pA X es)) ?_
  refine h.run X H0 as0 o as σ H _ D fun us as1 H1 l1 D1 s1 => ⟨?_, fun p hp => ?_⟩
  · rw [← s1.length]
    exact Nat.le_trans hl (by decide)
  · have k1 : Same H1 (upd H1 p (.tup us)) := Same.new hp
    exact k _ as1 _ ⟨l1.pre, l1.tk.trans (Same.tk k1)⟩ (D1.grow k1) (mkT_sv (s1.le (.h (Same.tk k1))) (.inl upd_same))
theorem exk_inst {P : Program} {w : World} {H : Hp} {h : Heap} {a d : Addr} {vs : List (Str × V)} (ok : HOk P w H h) (e : H a = some (exk a C d)) (ed : H d = some (exd d vs)) :
    ∃ (mA : Str → Option Value) (ob od : Obj), h.Ns1 d mA ∧ (∀ f, RelO (vs.lookup f) (mA f)) ∧ h.get? d = some od ∧ (∀ n, PySem.W.lookIn n od = some (mA n)) ∧ PySem.W.InstAt h a ob C (some od) := by
  obtain ⟨mA, hn, rl⟩ := exd_at ok ed
  obtain ⟨od, ho, hl⟩ := lookIn_ns hn
  obtain ⟨oe, vs, e1, e2, e3⟩ := exk_at ok e
  exact ⟨mA, oe, od, hn, rl, ho, hl, e1, e2.1, by unfold PySem.W.notCls; rw [e3], by rw [e2.2]; exact ho⟩
/-- e.f, e an exception that was caught: from its own reading -/
theorem xk_get {X : Cx} {pins : List (Addr × Obj)} {σ : L2.St} {H : Hp} {s : Shared} {Q : VK} {a d : Addr} {vs : List (Str × V)} {y : V} (T : XqC X.K C) (hno : PySem.W.findIn X.K (.ref C) f = some none) (I : Inv X pins σ H s) (e1 : H a = some (exk a C d)) (e2 : H d = some (exd d vs)) (ly : vs.lookup f = some y) (q : Q y H)
    {ex : Bool} : wpAny (model X.prog X.w) X.A (getAttr (.ref a) f ex) (EP X pins σ Q) X.xe s := by
  obtain ⟨mA, ob, od, hn, rl, ho, hl, J⟩ := exk_inst I.hok e1 e2
  obtain ⟨z, hz, rz⟩ := RelO.some_of (v := y) (o := mA f) (by rw [← ly]; exact rl f)
  exact HandSPX.exc_get I.kIn J T.ga T.gg T.sb (PySem.W.findObj_own T.hd hno rfl (by rw [hl, hz])) (handed_of rz) ⟨y, H, I.tok _, rz, q⟩
theorem he_xk (T : XqC c.K C) (hno : PySem.W.findIn c.K (.ref C) f = some none) (he : HE c Γ M e (.p k) M1) (h1 : M1[k]? = some (.xk C (.p j))) (h2 : M1[j]? = some (.xd fs)) (hf : fs.lookup f = some r)
    (hb : ∀ env, attributeBase e f env (eval e env) = eval e env := by intro _; rfl) : HE c Γ M (.Attribute e f pos) r M1 := by
  constructor
  intro X H0 as0 o as σ H Q D kq pins s I
  refine attr_of (hb _) (thn (he.run X H0 as0 o as σ H (fun v H1 => ∃ as1, Le as H as1 H1 ∧ DenM c.K c.T H0 as0 M1 as1 H1 ∧ SV c.K H1 as1 (.p k) v) D (fun v as1 H1 l1 D1 s1 => ⟨as1, l1, D1, s1⟩) pins s I) fun u s1 hh => ?_)
  obtain ⟨v, H1, I1, rv, as1, l1, D1, sv⟩ := hh
  cases sv with
  | p ea =>
    obtain rfl : u = Value.ref _ := rv
    obtain ⟨d, sd, e1⟩ := D1.mem k _ _ h1 ea
    cases sd with
    | p ed =>
      obtain ⟨vs, e2, kv⟩ := D1.mem j _ _ h2 ed
      obtain ⟨y, ly, sy⟩ := ksv_get kv hf
      exact xk_get (by rw [o.K]; exact T) (by rw [o.K]; exact hno) I1 e1 e2 ly (kq y as1 H1 l1 D1 sy)
/-- the same where nothing is handled -/
theorem ex_xk (T : XqC c.K C) (hno : PySem.W.findIn c.K (.ref C) f = some none) (he : EX c Γ M e (.p k) M1) (h1 : M1[k]? = some (.xk C (.p j))) (h2 : M1[j]? = some (.xd fs)) (hf : fs.lookup f = some r)
    (hb : ∀ env, attributeBase e f env (eval e env) = eval e env := by intro _; rfl) : EX c Γ M (.Attribute e f pos) r M1 := by
  constructor
  intro X H0 as0 o as σ H Q D kq pins s I
  refine attr_of (hb _) (thn (he.run X H0 as0 o as σ H (fun v H1 => ∃ as1, Le as H as1 H1 ∧ DenM c.K c.T H0 as0 M1 as1 H1 ∧ SV c.K H1 as1 (.p k) v) D (fun v as1 H1 l1 D1 s1 => ⟨as1, l1, D1, s1⟩) pins s I) fun u s1 hh => ?_)
  obtain ⟨v, H1, I1, rv, as1, l1, D1, sv⟩ := hh
  cases sv with
  | p ea =>
    obtain rfl : u = Value.ref _ := rv
    obtain ⟨d, sd, e1⟩ := D1.mem k _ _ h1 ea
    cases sd with
    | p ed =>
      obtain ⟨vs, e2, kv⟩ := D1.mem j _ _ h2 ed
      obtain ⟨y, ly, sy⟩ := ksv_get kv hf
      exact xk_get (by rw [o.K]; exact T) (by rw [o.K]; exact hno) I1 e1 e2 ly (kq y as1 H1 l1 D1 sy)
/-- isinstance(e, X), e an exception that was caught -/
theorem cs_isk {cv : Value} {u : V} {b : Bool} (T : XqC c.K C) (G : XqG c.K) (h1 : M[k]? = some (.xk C (.p j))) (h2 : M[j]? = some (.xd fs)) (hu : ClsV u cv) (hb : PySem.W.kitOne c.K (.ref C) cv = some b) : CS c (.builtin "isinstance") [.p k, .v u] M (.d (.bool b)) M := by
  constructor
  intro X H0 as0 o
  refine ⟨fun xs H Q => ∃ (a d : Addr) (vs : List (Str × V)), xs = [.ref a, u] ∧ H a = some (exk a C d) ∧ H d = some (exd d vs) ∧ Q (.bl b) H, fun pins s σ H xs us Q I r h => ?_, fun as H vs Q D sv q => ?_⟩
  · obtain ⟨a, d, vs, rfl, e1, e2, q⟩ := h
    obtain ⟨u1, u2, rfl, r1, r2⟩ := vals2 r
    obtain rfl : u1 = Value.ref a := r1
    have e := hu.eq r2
    subst e
    obtain ⟨mA, ob, od, hn, rl, ho, hl, J⟩ := exk_inst I.hok e1 e2
    have KX : c.K.In s.heap := by rw [← o.K]; exact I.kIn
    exact PySem.W.kia_one (kitx T G) KX J hb (fun z => nomatch z) fun tk => ⟨.bl b, H, I.tok tk, rfl, q⟩
  · obtain ⟨v, w, rfl, s1, s2⟩ := sv2 sv
    cases sv_v s2
    cases s1 with
    | p ea =>
      obtain ⟨d, sd, e1⟩ := D.mem k _ _ h1 ea
      cases sd with
      | p ed =>
        obtain ⟨vs, e2, kv⟩ := D.mem j _ _ h2 ed
        exact ⟨_, d, vs, rfl, e1, e2, q _ as H (Le.refl _ _) D (.d (.bl _))⟩
theorem hs_ret (he : HE c Γ M e r M1) (hq : rt r M1) : HS c Γ M [.Return (some e) pos] nx rt := by
  constructor
  intro X H0 as0 o as σ H D d f1 f2
  refine tB_of (pss_one (ps_ret (pE X e))) ?_
  exact he.run X H0 as0 o as σ H _ d fun v as1 H1 l1 D1 s1 => f2 _ _ as1 _ H1 hq l1 D1 s1
theorem hs_set (i : Nat) {v : Str} {pos' : Pos} (he : HE c Γ M e r M1) (hq : nx (Γ.set i (some r)) M1) (hi : c.N[i]? = some v := by rfl) (hx : Loc c.sc v := by first | exact Or.inl rfl | exact Or.inr rfl) (hf : c.own v = true ∨ c.sc.names.lookup v = some .local := by first | exact Or.inl rfl | exact Or.inr rfl)
    (hs : ∀ env, env.scope = c.sc → swapsWith e (some (.Name v pos')) pos.line env = pure false := by intro _ _; rfl) : HS c Γ M [.Assign [.Name v pos'] e pos] nx rt := by
  constructor
  intro X H0 as0 o as σ H D d f1 f2
  refine tB_of (pss_one (ps_set (by rw [o.N]; exact o.nd) (i := i) (by rw [o.N]; exact hi) (by rw [o.sc]; exact hx) (pE X e) (hs _ o.sc) ?_)) ?_
  · rcases hf with h | h
    · exact .inl (o.fn v h)
    · exact .inr (by rw [o.sc]; exact h)
  · exact he.run X H0 as0 o as σ H _ d fun v as1 H1 l1 D1 s1 => f1 _ _ as1 _ H1 hq l1 ((d.next l1 D1).set s1)
end
/-- a clause in the text: its class, the name's slot, its suite -/
structure DCl where
  cv : Value
  i : Nat
  st : List Stmt
inductive DCls (c : Cs) : List ExceptHandler → List DCl → Prop
  | nil : DCls c [] []
  | cons {x n : Str} {cv : Value} {i : Nat} {b₀ : Stmt} {suite : List Stmt} {np pos' : Pos} {hds : List ExceptHandler} {l : List DCl} (hg : c.sc.names.lookup x = some gI) (hdb : (x == ("__debug__" : Str)) = false) (hm : c.mg x = some cv ∨ (c.mg x = none ∧ bootBuiltins x = some cv ∧ x ≠ "__name__"))
      (hi : c.N[i]? = some n) (hl : c.sc.names.lookup n = some .local) (r : DCls c hds l) : DCls c (.ExceptHandler (some (.Name x np)) (some n) (b₀ :: suite) pos' :: hds) (⟨cv, i, b₀ :: suite⟩ :: l)
/-- what is wanted of an exception of the body -/
def XC (c : Cs) (N : Nd) : List DCl → Gm → Addr → Nat → Sto → Prop
  | [] => N.xc
  | q :: r => fun Γ C k M => ∃ b, PySem.W.exmOne c.K (.ref C) q.cv = some b ∧
      (b = true → HS c (Γ.set q.i (some (.p M.length))) (M ++ [.xk C (.p k)]) q.st (fun Γ' M' => N.nx (Γ'.set q.i none) M') N.rt) ∧ (b = false → XC c N r Γ C k M)
theorem Den.unset {K : PySem.W.Frag} {T : Tb} {H0 H : Hp} {as0 as : List Addr} {σ : L2.St} {Γ : Gm} {M : Sto} (D : Den K T H0 as0 Γ M as σ H) (i : Nat) : Den K T H0 as0 (Γ.set i none) M as (σ.set i none) H := by
  refine ⟨D.m, by simpa using D.len, fun j t e => ?_⟩
  by_cases h : i = j
  · subst h
    rw [List.getElem?_set] at e
    simp at e
  · rw [List.getElem?_set_ne h] at e ⊢
    exact D.loc j t e
theorem sx_try {c : Cs} {Γ : Gm} {M : Sto} {body : List Stmt} {h₀ : ExceptHandler} {hds : List ExceptHandler} {pos : Pos} {N : Nd} {l : List DCl} (hp : ∀ X H0, c.px X H0 → Pf X H0) (hpx : ∀ X H0 pn xe, c.px X H0 → c.px (X.tr pn xe) H0) (hh : DCls c (h₀ :: hds) l)
    (hbk : ∀ Γ M, ¬ N.bk Γ M) (hct : ∀ Γ M, ¬ N.ct Γ M) (hb : BX c Γ M body { N with xc := XC c N l }) : SX c Γ M (.Try body (h₀ :: hds) [] [] pos) N := by
  constructor
  intro X H0 as0 o as σ H D den f
  have pf := hp X H0 o.px
  obtain ⟨Wout, tk, hW⟩ := f.xc
  let cl : DCl → Clause := fun q => ⟨q.cv, q.i, fun a C dd D σ H => ∀ pn, tB (hot X a pn) q.st D σ H⟩
  have hcl : Clauses X (h₀ :: hds) (l.map cl) := by
    clear hb f
    generalize h₀ :: hds = hs at hh
    induction hh with
    | nil => exact .nil
    | cons hg hdb hm hi hl r ih =>
      refine .cons ⟨gl_ok o hg, hdb, by rw [o.mg]; exact hm⟩ (by rw [o.N]; exact hi) ?_ (fun a C d pn => ⟨fun pins s σ H D I h => h pn pins s I⟩) ih
      show X.env.scope.names.lookup _ = _
      rw [o.sc]
      exact hl
  refine tS_of (ps_tryK pf.st pf.fr (by rw [o.N]; exact o.nd) pf.ex tk (tb := fun W D σ H => ∀ pn xe, Takes (X.tr pn xe) W → PassesOwn (model X.prog X.w) X.A X.env xe → tB (X.tr pn xe) body D σ H) (fun W pn xe t2 pw => ⟨fun pins s σ H D I h => h pn xe t2 pw pins s I⟩) hcl) ?_
  intro pn xe t2 pw
  have o2 : OkE c (X.tr pn xe) H0 as0 := ⟨⟨o.P, o.w, o.K, o.mg, o.base, o.N, o.sc, o.calm, o.room, o.gd, o.nd, o.kind, pw, o.fn⟩, o.ent, hpx X H0 pn xe o.px⟩
  refine hb.run (X.tr pn xe) H0 as0 o2 as σ H D den ⟨f.nx, f.rt, fun _ _ _ _ _ h => (hbk _ _ h).elim, fun _ _ _ _ _ h => (hct _ _ h).elim, _, t2, ?_⟩
  intro Γ1 C k M1 as1 σ1 H1 d hx l1 D1 ed
  have hK := o.K
  have main : ∀ l' : List DCl, XC c N l' Γ1 C k M1 → wCl X.K Wout D (l'.map cl) (.ref C) (some d) σ1 H1 := by
    intro l'
    induction l' with
    | nil =>
      intro hx
      exact hW Γ1 C k M1 as1 σ1 H1 d hx l1 D1 ed
    | cons q r ih =>
      intro hx
      obtain ⟨b, hb1, yes, no⟩ := hx
      refine ⟨b, by rw [hK]; exact hb1, fun hbt => ⟨C, d, rfl, rfl, fun a na pn' => ?_⟩, fun hbf => ih (no hbf)⟩
      have oh : OkH c (hot X a pn') := ⟨o.P, o.w, o.K, o.mg, o.base, o.N, o.sc, o.nd, o.fn⟩
      have l2 : Le as1 H1 (as1 ++ [a]) (upd H1 a (exk a C d)) := ⟨List.prefix_append _ _, Same.tk (Same.new na)⟩
      have ea : (as1 ++ [a])[M1.length]? = some a := by
        rw [← D1.m.len, List.getElem?_append_right (Nat.le_refl _)]
        simp
      have D2 : DenM c.K c.T H0 as0 (M1 ++ [.xk C (.p k)]) (as1 ++ [a]) (upd H1 a (exk a C d)) := D1.m.push na Tr.exk ⟨d, .p (pre_get l2.pre ed), upd_same⟩ (fun _ z => nomatch z)
      refine (yes hbt).run (hot X a pn') H0 as0 oh (as1 ++ [a]) _ _ _ ((D1.next l2 D2).set (.p ea)) (fun Γ' M' as' σ' H' h l3 D3 => ?_) fun r M' as' v H' h l3 D3 s3 => ?_
      · exact f.nx _ M' as' _ H' h ((l1.trans l2).trans l3) (D3.unset q.i)
      · exact f.rt r M' as' v H' h ((l1.trans l2).trans l3) D3 s3
  exact main l hx
end DL

namespace DL
open PySem PySem.Spec PyProof.Rows L2 DX LamX
section
variable {K : PySem.W.Frag} {T : Tb} {H0 H1 H H' : Hp} {as0 as as' : List Addr} {M M' : Sto}
/-- from now on -/
theorem DenM.now (D : DenM K T H0 as0 M as H) : DenM K T H as M as H where
  nd := D.nd
  len := D.len
  new := ⟨[], by simp, by simp⟩
  le := Tk.refl _
  fr := fun _ _ e _ _ => e
  tb := fun a ps e => ⟨#[], by rw [Array.append_empty]; exact e⟩
  tab := D.tab
  mem := D.mem
  there := D.there
  st := D.st
/-- one stretch behind the other -/
theorem DenM.comp (D : DenM K T H0 as0 M as H) (C : DenM K T H as M' as' H') : DenM K T H0 as0 M' as' H' := by
  obtain ⟨l, e, hl⟩ := C.new
  obtain ⟨l0, e0, hl0⟩ := D.new
  refine ⟨C.nd, C.len, ⟨l0 ++ l, by rw [e, e0, List.append_assoc], fun a ha => ?_⟩, D.le.trans C.le, fun a o h n hn => ?_, fun a ps h => ?_, C.tab, C.mem, C.there, C.st⟩
  · rcases List.mem_append.mp ha with z | z
    · exact hl0 a z
    · exact D.h0 (hl a z)
  · have na : a ∉ as := fun z => hn (by rw [e]; exact List.mem_append_left _ z)
    exact C.fr a o (D.fr a o h n na) n hn
  · obtain ⟨m1, q1⟩ := D.tb a ps h
    obtain ⟨m2, q2⟩ := C.tb a _ q1
    exact ⟨m1 ++ m2, by rw [← Array.append_assoc]; exact q2⟩
theorem DenM.pre (C : DenM K T H0 as0 M as H) : as0 <+: as := by
  obtain ⟨l, e, _⟩ := C.new
  exact ⟨l, e.symm⟩
/-- tables have grown -/
theorem DenM.ext (D : DenM K T H0 as0 M as H) (x : ExtT H H') (t : Tabs T H') : DenM K T H0 as0 M as H' := by
  have hk : ∀ a ∈ as, H' a = H a := fun a ha => by
    obtain ⟨o, e, tr⟩ := D.there a ha
    rw [e, x.n a o e tr.tbl]
  have tk : Tk H H' := fun a o tp e => x.n a _ e (fun _ z => by subst z; rcases tp with ⟨_, z⟩ | ⟨_, _, z⟩ <;> cases z)
  refine ⟨D.nd, D.len, D.new, D.le.trans tk, fun a o h n hn => x.n a o (D.fr a o h n hn) n, fun a ps h => ?_, t, fun j m a e1 e2 => ?_, fun a ha => ?_, D.st⟩
  · obtain ⟨m1, q1⟩ := D.tb a ps h
    obtain ⟨m2, q2⟩ := x.t a _ q1
    exact ⟨m1 ++ m2, by rw [← Array.append_assoc]; exact q2⟩
  · have ha := hk a (List.mem_of_getElem? e2)
    exact MOk.le (.h tk) ha (fun φ e h => by subst e; exact D.st j φ e1 H H' a h ha) (D.mem j m a e1 e2)
  · obtain ⟨o, e, tr⟩ := D.there a ha
    exact ⟨o, by rw [hk a ha]; exact e, tr⟩
theorem extT_tk (x : ExtT H H') : Tk H H' := fun a o tp e => x.n a _ e (fun _ z => by subst z; rcases tp with ⟨_, z⟩ | ⟨_, _, z⟩ <;> cases z)
end
/-- how e ends -/
def EOc (c : Cs) (Γ : Gm) (M : Sto) (e : Expr) (oc : Oc) (M' : Sto) : Prop := match oc with
  | .val r => EX c Γ M e r M'
  | .exc C k => ER c Γ M e C k M'
/-- where lambdas can be made -/
structure LamF (c : Cs) (X : Cx) : Prop where
  ex : ∃ cc P, TabB X.base X.mg cc P ∧ X.env.code = .ref cc ∧ (P, X.env.qual ++ "<lambda>") ∈ c.T ∧ ∀ p ∈ c.T, p.1 = P → p.2 = X.env.qual ++ "<lambda>"
/-- the body of a lambda -/
abbrev cL (c : Cs) (scope : Scope) (k : Nat) : Cs := { c with sc := scope, k := k, own := fun _ => false, ent := fun _ _ => True, px := fun _ _ => True }
/-- the def that gets a lambda -/
abbrev cTd (m : Ms) (N : List Str) (sc : Scope) (k : Nat) (en : Hp → List Addr → Prop) (px : Cx → Hp → Prop) : Cs := ⟨m.P, m.w, m.K, m.T, m.mg, m.base, N, sc, k, fun _ => true, en, px⟩
/-- the def st calls what it gets: that ends as oc, from M to M1; then the def returns r, the store is M2 -/
def ToldS (m : Ms) (st : Stmt) (a : Str) (N : List Str) (k : Nat) (oc : Oc) (M M1 : Sto) (r : S) (M2 : Sto) : Prop :=
  ∀ (en : Hp → List Addr → Prop) (px : Cx → Hp → Prop) (f : Addr), (∀ X H0, px X H0 → Pf X H0) → (∀ X H0 pn xe, px X H0 → px (X.tr pn xe) H0) →
    (∀ Γ' p1 p2, Γ'[0]? = some (some (.v (.ref f))) → EOc (cTd m N (defScope st) k en px) Γ' M (.Call (.Name a p1) [] [] p2) oc M1) →
    BX (cTd m N (defScope st) k en px) (some (.v (.ref f)) :: List.replicate (N.length - 1) none) M (defBody st) { nx := fun _ M'' => Fin M.length (.d .none) M'' r M2, rt := fun r' M'' => Fin M.length r' M'' r M2 }
/-- the reading of a def that gets a lambda: nothing but itself -/
def TTg (X : Cx) (Ng : List Str) (x : Str) (sg : Scope) (g : Addr) (cdg : Value) (bg : List Stmt) (a : Str) (q : Str) : (XK → Hp → VK → Prop) → Hp → VK → Prop := fun tl H Q => ∀ (f c' : Addr) (s : Shared),
    (∀ (W : WX) (pn : List (Addr × Obj)) (xe : Value → Shared → Prop) (E : L2.St → XK) (p1 p2 : Pos), Takes ((cxOf C8.CX0 X.prog X.w X.K X.mg X.base Ng x sg g cdg X.A X.stack s H C8.E0).tr pn xe) W → (∀ σ' cls d H', E σ' cls d H' → W cls d σ' H') →
      PE ((cxOf C8.CX0 X.prog X.w X.K X.mg X.base Ng x sg g cdg X.A X.stack s H C8.E0).tr pn xe) (.Call (.Name a p1) [] [] p2) (fun σZ HZ Q => σZ[0]? = some (some (.ref f)) ∧ HZ c' = some (CodeO c' q) ∧ tl (E σZ) HZ Q)) →
    H c' = some (CodeO c' q) → ∃ t, PSs (cxOf C8.CX0 X.prog X.w X.K X.mg X.base Ng x sg g cdg X.A X.stack s H C8.E0).nox bg t ∧ t { nx := fun _ H' => Q .non H', rt := Q } (L2.start Ng [.ref f]) H
section
variable {c : Cs} {Γ : Gm} {M M1 M2 : Sto} {x a : Str} {st : Stmt} {N : List Str} {bo : Expr} {scope : Scope} {r : S} {oc : Oc} {k : Nat}
/-- the reading, whatever the lambda's parameters are -/
theorem told_run {X : Cx} {H0 : Hp} {as0 as : List Addr} {σ : L2.St} {H : Hp} {Q : VK} {g : Addr} {cdg : Value} (o : OkE c X H0 as0) (hk : k + 2 ≤ c.k) (kind : scope.kind = .function) (S : FnScope N [a] (defScope st))
    (hb : EOc (cL c scope k) Γ M bo oc M1) (hs : ToldS c.ms st a N (k + 1) oc M M1 r M2) (D : Den c.K c.T H0 as0 Γ M as σ H) (kq : ∀ v as' H', Le as H as' H' → DenM c.K c.T H0 as0 M2 as' H' → SV c.K H' as' r v → Q v H') :
    tLam2 c.T (TTg X N x (defScope st) g cdg (defBody st) a (X.env.qual ++ "<lambda>")) (fun E σ' H' Q' => ∀ A outer s HH f c', Room k (A.deeper (lamEnv X scope s.heap.objs.size f c')) → A.guards = X.A.guards → tE (lamCx X A outer s HH E scope f c') bo σ' H' Q') σ H Q := by
  refine ⟨D.m.tab, fun H1 eT T1 f c' s act hco => ?_⟩
  have D1 := D.m.ext eT T1
  have E1 := D1.now
  refine ⟨_, pB _ _, ?_⟩
  let X1 := cxOf C8.CX0 X.prog X.w X.K X.mg X.base N x (defScope st) g cdg X.A X.stack s H1 C8.E0
  let px : Cx → Hp → Prop := fun X' H' => H' = H1 ∧ ∃ pn xe, X' = X1.tr pn xe
  let en : Hp → List Addr → Prop := fun _ as' => as' = as
  have hpf : ∀ X' H', px X' H' → Pf X' H' := by
    rintro X' H' ⟨rfl, pn, xe, rfl⟩
    exact ⟨rfl, rfl, rfl, rfl⟩
  have hpt : ∀ X' H' pn xe, px X' H' → px (X'.tr pn xe) H' := by
    rintro X' H' pn' xe' ⟨rfl, pn, xe, rfl⟩
    exact ⟨rfl, pn', xe', rfl⟩
  have o1 : OkE (cTd c.ms N (defScope st) (k + 1) en px) X1.nox H1 as := ⟨⟨o.P, o.w, o.K, o.mg, o.base, rfl, rfl, rfl, (o.room.mono hk).deeper _, o.gd, S.nd, S.kind, own_never, fun _ _ => rfl⟩, rfl, rfl, X1.pn, _, rfl⟩
  -- the lambda called
  have same : ∀ {asZ HZ}, DenM c.K c.T H1 as M asZ HZ → asZ = as := fun {asZ HZ} DZ => by
    obtain ⟨l, e, _⟩ := DZ.new
    have h1 := DZ.len
    have h2 := E1.len
    rw [e, List.length_append] at h1
    have : l = [] := List.eq_nil_of_length_eq_zero (by omega)
    rw [e, this, List.append_nil]
  have code : ∀ {HZ}, DenM c.K c.T H1 as M as HZ → HZ c' = some (CodeO c' (X.env.qual ++ "<lambda>")) := fun {HZ} DZ => by
    refine DZ.fr c' _ hco (fun ps => codeO_ne ps) fun z => ?_
    obtain ⟨u, e, tr⟩ := E1.there c' z
    rw [hco] at e
    exact tr.cod _ (Option.some.inj e).symm
  have den : ∀ {HZ}, DenM c.K c.T H1 as M as HZ → Den c.K c.T HZ as Γ M as σ HZ := fun {HZ} DZ =>
    ⟨DZ.now, D.len, fun i s e => let ⟨v, h1, h2⟩ := D.loc i s e; ⟨v, h1, h2.le (.h ((extT_tk eT).trans DZ.le))⟩⟩
  have lam : ∀ {A outer s HH f c'} {E : XK} {HZ}, Room k (A.deeper (lamEnv X scope s.heap.objs.size f c')) → A.guards = X.A.guards → OkE (cL c scope k) (lamCx X A outer s HH E scope f c') HZ as := fun {A outer s HH f c' E HZ} hr hg =>
    ⟨⟨o.P, o.w, o.K, o.mg, o.base, o.N, rfl, rfl, hr, hg.trans o.gd, o.nd, kind, PassesOwn.leaving, fun _ h => nomatch h⟩, trivial, trivial⟩
  have orc : ∀ Γ' p1 p2, Γ'[0]? = some (some (.v (.ref f))) → EOc (cTd c.ms N (defScope st) (k + 1) en px) Γ' M (.Call (.Name a p1) [] [] p2) oc M1 := by
    intro Γ' p1 p2 h0
    cases oc with
    | val r0 =>
      constructor
      intro X' H' as' o' asZ σZ HZ Q' DZ kq'
      obtain ⟨rfl, pn, xe, rfl⟩ := o'.px
      have ea : as' = as := o'.ent
      subst ea
      obtain rfl := same DZ.m
      obtain ⟨v0, e1, e2⟩ := DZ.loc 0 _ h0
      cases sv_v e2
      refine tE_of (act _ pn xe (fun _ _ _ _ => False) p1 p2 LamX.takes0 (fun _ _ _ _ h => h)) ⟨e1, code DZ.m, fun A outer s HH f c' hr hg => ?_⟩
      exact hb.run _ HZ asZ (lam hr hg) asZ σ HZ _ (den DZ.m) fun v as2 H2 l2 D2 s2 => kq' v as2 H2 l2 (DZ.m.comp D2) s2
    | exc C j =>
      constructor
      intro X' H' as' o' asZ σZ HZ W tk DZ kq' Q'
      obtain ⟨rfl, pn, xe, rfl⟩ := o'.px
      have ea : as' = as := o'.ent
      subst ea
      obtain rfl := same DZ.m
      obtain ⟨v0, e1, e2⟩ := DZ.loc 0 _ h0
      cases sv_v e2
      refine tE_of (act W pn xe (fun σ' cls d H' => W cls d σ' H') p1 p2 tk (fun _ _ _ _ h => h)) ⟨e1, code DZ.m, fun A outer s HH f c' hr hg => ?_⟩
      refine hb.run (lamCx X A outer s HH (fun cls d H' => W cls d σZ H') scope f c') HZ asZ (lam hr hg) asZ σ HZ (fun cls d _ H' => W cls d σZ H') (takes_of rfl rfl rfl rfl) (den DZ.m) (fun as2 H2 d l2 D2 e2 => kq' as2 H2 d l2 (DZ.m.comp D2) e2) _
  have fin : ∀ r' M'' as' v H', Fin M.length r' M'' r M2 → Le as H1 as' H' → DenM c.K c.T H1 as M'' as' H' → SV c.K H' as' r' v → Q v H' := by
    rintro r' M'' as' v H' ⟨js, kp, rn⟩ l d s
    have d2 := d.keep (Nat.le_of_eq E1.len) kp
    exact kq v _ H' ⟨d2.pre, (extT_tk eT).trans d2.le⟩ (D1.comp d2) (s.ren (pick_ok d.len kp) rn)
  have hN : 1 ≤ N.length := by
    have := S.pre
    cases N with
    | nil => simp at this
    | cons => simp
  refine (hs en px f hpf hpt orc).run _ H1 as o1 as (L2.start N [.ref f]) H1 _ ⟨E1, ?_, fun i t ht => ?_⟩ ⟨fun Γ2 M2 as2 σ2 H2 h l d => fin _ M2 as2 _ H2 h l d.m (.d .non), fun r2 M2 as2 v H2 h l d s => fin _ M2 as2 _ H2 h l d s, fun _ _ _ _ _ h => h.elim, fun _ _ _ _ _ h => h.elim, ⟨_, LamX.takes0, fun _ _ _ _ _ _ _ _ h => h.elim⟩⟩
  · unfold L2.start
    simp
  · cases i with
    | zero =>
      simp at ht
      subst ht
      exact ⟨.ref f, start_at (i := 0) (N := N) (vs := [.ref f]) (Nat.zero_lt_one), .v _⟩
    | succ i => simp [List.getElem?_replicate] at ht
end
end DL
namespace DL
open PySem PySem.Spec PyProof.Rows L2 DX LamX
section
variable {c : Cs} {Γ : Gm} {M M1 M2 : Sto} {x a : Str} {st : Stmt} {N : List Str} {bo : Expr} {scope : Scope} {r : S} {oc : Oc} {k : Nat}
/-- x(lambda: bo) -/
theorem ex_told0 {p lpos pos : Pos} (hlam : ∀ X H0, c.px X H0 → LamF c X) (F : HasD c.ms x st [a]) (S : FnScope N [a] (defScope st)) (hva : Vis (defScope st) a) (L : lamSB c.sc scope = true) (hb : EOc (cL c scope k) Γ M bo oc M1) (hs : ToldS c.ms st a N (k + 1) oc M M1 r M2)
    (hk : k + 2 ≤ c.k := by exact Nat.le_of_ble_eq_true rfl) (hg : c.sc.names.lookup x = some gI := by rfl) (hdb : (x == ("__debug__" : Str)) = false := by decide) (hd : (a == ("__debug__" : Str)) = false := by decide) (hcd : (a == ("__classdict__" : Str)) = false := by decide) :
    EX c Γ M (.Call (.Name x p) [.Lambda par0 bo scope lpos] [] pos) r M2 := by
  constructor
  intro X H0 as0 o as σ H Q D kq
  obtain ⟨cc, P, TB, hco, hmT, hu⟩ := (hlam X H0 o.px).ex
  obtain ⟨f, fd, hm, F, hbd⟩ := F
  obtain ⟨oc', od, kV, doc, pm, an, cdv, ct, osl, rfl, lk, hcdv⟩ := F.ex
  have L' := lamS_by L
  have hN : N[0]? = some a := by
    have := S.pre
    cases N with
    | nil => simp at this
    | cons y ys => simpa using this
  refine tE_of (pe_lamcall0 (k := k) (t := fun E σ' H' Q' => ∀ A outer s HH f c', Room k (A.deeper (lamEnv X scope s.heap.objs.size f c')) → A.guards = X.A.guards → tE (lamCx X A outer s HH E scope f c') bo σ' H' Q') (gl_ok o hg) (by rw [o.mg]; exact hm) (by rw [o.K]; exact F.kp) (by rw [o.K]; exact lk) (by rw [o.K]; exact hcdv) (by rw [o.K]; exact hbd) S hN hva
    (TT := TTg X N x (defScope st) f cdv (defBody st) a (X.env.qual ++ "<lambda>")) (fun f' c' s H Q tl act hc h => h f' c' s act hc) TB hco hmT hu (o.room.mono hk) (by rw [o.sc]; exact L') rfl (fun _ _ _ _ _ => bind_none _ _ _ _ _) (fun A outer s H E f c' hr hg => ⟨fun pins s' σ H Q I h => h A outer s _ f c' hr hg pins s' I⟩) hdb hd hcd) ?_
  exact told_run o hk L'.kind S hb hs D kq
/-- x(lambda p=i: bo) -/
theorem ex_told1 {p : Str} {iv : Int} {j : Nat} {cp ap q1 lpos pos : Pos} (hlam : ∀ X H0, c.px X H0 → LamF c X) (F : HasD c.ms x st [a]) (S : FnScope N [a] (defScope st)) (hva : Vis (defScope st) a) (L : lamPB p c.sc scope = true) (hp : p ∉ c.N) (hb : EOc (cL c scope k) Γ M bo oc M1) (hs : ToldS c.ms st a N (k + 1) oc M M1 r M2)
    (hk : k + 2 ≤ c.k := by exact Nat.le_of_ble_eq_true rfl) (hg : c.sc.names.lookup x = some gI := by rfl) (hdb : (x == ("__debug__" : Str)) = false := by decide) (hd : (a == ("__debug__" : Str)) = false := by decide) (hcd : (a == ("__classdict__" : Str)) = false := by decide) :
    EX c Γ M (.Call (.Name x q1) [.Lambda (par1 p (.Constant (.int iv) j cp) ap) bo scope lpos] [] pos) r M2 := by
  constructor
  intro X H0 as0 o as σ H Q D kq
  obtain ⟨cc, P, TB, hco, hmT, hu⟩ := (hlam X H0 o.px).ex
  obtain ⟨f, fd, hm, F, hbd⟩ := F
  obtain ⟨oc', od, kV, doc, pm, an, cdv, ct, osl, rfl, lk, hcdv⟩ := F.ex
  have L' := lamP_by L
  have hN : N[0]? = some a := by
    have := S.pre
    cases N with
    | nil => simp at this
    | cons y ys => simpa using this
  refine tE_of (pe_lamcall3 (k := k) (t := fun E σ' H' Q' => ∀ A outer s HH f c', Room k (A.deeper (lamEnv X scope s.heap.objs.size f c')) → A.guards = X.A.guards → tE (lamCx X A outer s HH E scope f c') bo σ' H' Q') (gl_ok o hg) (by rw [o.mg]; exact hm) (by rw [o.K]; exact F.kp) (by rw [o.K]; exact lk) (by rw [o.K]; exact hcdv) (by rw [o.K]; exact hbd) S hN hva
    (TT := TTg X N x (defScope st) f cdv (defBody st) a (X.env.qual ++ "<lambda>")) (fun f' c' s H Q tl act hc h => h f' c' s act hc) TB hco hmT hu (o.room.mono hk) (by rw [o.sc]; exact L') (by rw [o.N]; exact hp) rfl (fun M A S E Q q cl pm cv tv d t0 h1 h2 => bind_dflt M A S E Q q cl pm cv tv d t0 h1 h2) (fun A outer s H E f c' hr hg => ⟨fun pins s' σ H Q I h => h A outer s _ f c' hr hg pins s' I⟩) hdb hd hcd) ?_
  exact told_run o hk L'.kind S hb hs D kq
end
end DL

namespace DL
open PySem PySem.Spec PyProof.Rows L2 DX
/-- the built-ins are what they are -/
structure Std (mg : Str → Option Value) : Prop where
  len : mg "len" = none
  isi : mg "isinstance" = none
  int : mg "int" = none
  bool : mg "bool" = none
  str : mg "str" = none
  tuple : mg "tuple" = none
  list : mg "list" = none
  set : mg "set" = none
  dict : mg "dict" = none
  range : mg "range" = none
  enum : mg "enumerate" = none
  all : mg "all" = none
  any : mg "any" = none
  abs : mg "abs" = none
  min : mg "min" = none
  max : mg "max" = none
  sum : mg "sum" = none
  sorted : mg "sorted" = none
  repr : mg "repr" = none
/-! ### data at any depth -/
mutual
inductive Dg (M : Sto) : S → PyData → Prop
  | d (x : PyData) : Dg M (.d x) x
  | q {b : Bool} (ds : List PyData) : Dg M (.q b ds) (.tuple ds)
  | l {k : Nat} {m : MO} {ss : List S} {ds : List PyData} : M[k]? = some m → LItems m ss → DgL M ss ds → Dg M (.p k) (.list ds)
  | t {ss : List S} {ds : List PyData} : DgL M ss ds → Dg M (.t ss) (.tuple ds)
inductive DgL (M : Sto) : List S → List PyData → Prop
  | nil : DgL M [] []
  | cons {s : S} {ss : List S} {d : PyData} {ds : List PyData} : Dg M s d → DgL M ss ds → DgL M (s :: ss) (d :: ds)
end
theorem DgL.data {M : Sto} : ∀ ds : List PyData, DgL M (ds.map S.d) ds
  | [] => .nil
  | d :: ds => .cons (.d d) (DgL.data ds)
theorem Dg.li {M : Sto} {k : Nat} {m : MO} {ds : List PyData} (h : M[k]? = some m) (hl : LItems m (ds.map S.d)) : Dg M (.p k) (.list ds) := .l h hl (DgL.data ds)
section
variable {K : PySem.W.Frag} {T : Tb} {H0 H : Hp} {as0 as : List Addr} {M : Sto}
mutual
theorem Dg.dp (D : DenM K T H0 as0 M as H) : ∀ {s : S} {d : PyData} {v : V}, Dg M s d → SV K H as s v → Dp K H v d
  | _, _, _, .d _, .d q => q.dp
  | _, _, _, .q _, .q e f => .tup (.inl e.rd) (ImAll.dp f)
  | _, _, _, .l e1 e2 e3, .p ea => by
    obtain ⟨vs, h1, h2⟩ := e2.seq (D.mem _ _ _ e1 ea)
    exact .lst h1 (DgL.dp D e3 h2)
  | _, _, _, .t e, .t h r => .tup (.inl h) (DgL.dp D e r)
theorem DgL.dp (D : DenM K T H0 as0 M as H) : ∀ {s : List S} {d : List PyData} {v : List V}, DgL M s d → SVs K H as s v → DpAll K H v d
  | _, _, _, .nil, .nil => .nil
  | _, _, _, .cons h a, .cons q r => .cons (Dg.dp D h q) (DgL.dp D a r)
end
end
/-! ### kinds -/
def kd : PyData → String
  | .none => "NoneType"
  | .bool _ => "bool"
  | .int _ => "int"
  | .str _ => "str"
  | .list _ => "list"
  | .tuple _ => "tuple"
  | .dict _ => "dict"
def isA (a b : String) : Bool := a == b || (a == "bool" && b == "int")
theorem kit_isA0 : ∀ a ∈ ["NoneType", "bool", "int", "str", "list", "tuple", "dict"], ∀ b ∈ ["int", "bool", "str", "tuple", "list", "dict"], kitB a b = some (isA a b) := by decide +kernel
theorem kd_mem (d : PyData) : kd d ∈ ["NoneType", "bool", "int", "str", "list", "tuple", "dict"] := by cases d <;> simp [kd]
theorem kit_isA {d : PyData} {b : String} (h : b ∈ ["int", "bool", "str", "tuple", "list", "dict"]) : kitB (kd d) b = some (isA (kd d) b) := kit_isA0 _ (kd_mem d) _ h
section
variable {K : PySem.W.Frag} {T : Tb} {H0 H : Hp} {as0 as : List Addr} {M : Sto}
theorem sq_ty {a : Addr} {xs : List V} (h : SqL K H a xs) : TyX K H (.ref a) (.type "list") := by
  rcases h with (h | ⟨o, h⟩) | ⟨o, its, n, h, hc, _⟩
  · exact .base (.lst h)
  · exact .base (.frz h)
  · exact .kList h hc
theorem rd_ty {a : Addr} {xs : List V} (h : Rd H a (.tup xs)) : TyX K H (.ref a) (.type "tuple") := by
  rcases h with h | ⟨o, h⟩
  · exact .base (.tup h)
  · exact .fTuple h
theorem Dg.ty (D : DenM K T H0 as0 M as H) {s : S} {d : PyData} {v : V} (h : Dg M s d) (r : SV K H as s v) : TyX K H v (.type (kd d)) := by
  cases h with
  | d =>
    cases r with
    | d q =>
      cases q with
      | non => exact .base .non
      | bl b => exact .base (.bl b)
      | int i => exact .base (.int i)
      | str x => exact .base (.str x)
      | tup h f => exact rd_ty h
  | q => cases r with | q e f => exact rd_ty e.rd
  | l e1 e2 e3 =>
    cases r with
    | p ea =>
      obtain ⟨vs, h1, h2⟩ := e2.seq (D.mem _ _ _ e1 ea)
      exact sq_ty h1
  | t e => cases r with | t h r => exact rd_ty h
end
section
variable {c : Cs} {Γ : Gm} {M M' M1 M2 M3 : Sto} {e a b o : Expr} {es : List Expr} {r x y z s : S} {rs : List S} {pos p apos : Pos} {i j : Int} {k : Nat} {f : Str} {N : Nd} {d : PyData}
theorem cs_isi {n : String} (hd : Dg M s d) (hn : n ∈ ["int", "bool", "str", "tuple", "list", "dict"]) : CS c (.builtin "isinstance") [s, .v (.ty n)] M (.d (.bool (isA (kd d) n))) M :=
  cs_of (fun X => rIsi X.K) (fun X o => call_isi) fun X H0 as0 o as H vs Q D sv q => by
    obtain ⟨v, w, rfl, s1, s2⟩ := sv2 sv
    cases sv_v s2
    rw [o.K]
    exact ⟨v, .ty n, _, _, _, rfl, .ty n, hd.ty D s1, kit_ty (kit_isA hn), q _ as H (Le.refl _ _) D (.d (.bl _))⟩
/-- weaker: a tuple of data -/
theorem ex_q {b : Bool} {ds : List PyData} (h : EX c Γ M e (.q b ds) M1) : EX c Γ M e (.d (.tuple ds)) M1 := by
  constructor
  intro X H0 as0 o as σ H Q D k
  refine h.run X H0 as0 o as σ H Q D fun v as' H' l D' sv => k v as' H' l D' ?_
  cases sv with
  | q e f => exact .d (.tup e.rd f)
theorem os_eqG {d e : PyData} (hx : Dg M x d) (hy : Dg M y e) (sd : SeqAt.shaped d = true) (se : SeqAt.shaped e = true) : OS c (compareOp .Eq) x y M (.d (.bool (PyData.eqv d e))) M :=
  os_of (fun X => rEqD X.K) (fun X o => op_eqD o.room.units) fun X H0 as0 o as H u v Q D sx sy k => by
    rw [o.K]
    exact ⟨d, e, hx.dp D sx, hy.dp D sy, sd, se, k _ as H (Le.refl _ _) D (.d (.bl _))⟩
theorem os_neG {d e : PyData} (hx : Dg M x d) (hy : Dg M y e) (sd : SeqAt.shaped d = true) (se : SeqAt.shaped e = true) : OS c (compareOp .NotEq) x y M (.d (.bool (!PyData.eqv d e))) M :=
  os_of (fun X => rNeD X.K) (fun X o => op_neD o.room.units) fun X H0 as0 o as H u v Q D sx sy k => by
    rw [o.K]
    exact ⟨d, e, hx.dp D sx, hy.dp D sy, sd, se, k _ as H (Le.refl _ _) D (.d (.bl _))⟩
end
end DL

namespace DL
open PySem PySem.Spec PyProof.Rows L2 DX
abbrev One (e : Expr) : Prop := ∀ env, starEach [e] env = (false, eval e env) :: starEach [] env
abbrev Two (e a : Expr) : Prop := ∀ env, starEach [e, a] env = (false, eval e env) :: starEach [a] env
section
variable {c : Cs} {Γ : Gm} {M M' M1 M2 M3 : Sto} {e a b o : Expr} {es : List Expr} {r x y z s : S} {rs : List S} {pos p p2 p3 apos : Pos} {i j : Int} {k : Nat} {f : Str} {N : Nd} {d : PyData}
/-! ### built-ins by name -/
theorem ex_isi {ty : Str} {n : String} (Z : Std c.mg) (he : EX c Γ M e s M1) (hd : Dg M1 s d) (hm : c.mg ty = none) (hb : bootBuiltins ty = some (.type n)) (hn : n ∈ ["int", "bool", "str", "tuple", "list", "dict"])
    (hg : c.sc.names.lookup ("isinstance" : Str) = some gI := by rfl) (hg2 : c.sc.names.lookup ty = some gI := by rfl) (h1 : ∀ env, starEach [e, .Name ty p2] env = (false, eval e env) :: starEach [.Name ty p2] env := by intro _; rfl) (hn2 : ty ≠ "__name__" := by decide) (hdb : (ty == ("__debug__" : Str)) = false := by decide) :
    EX c Γ M (.Call (.Name "isinstance" p) [e, .Name ty p2] [] pos) (.d (.bool (isA (kd d) n))) M1 :=
  ex_callB (cs_isi hd hn) (ea_cons he (ea_cons (ex_blt hg2 hm hb (v := .ty n) rfl hn2 hdb) ea_nil (fun _ => rfl)) h1) Z.isi boot_isinstance hg (he := h1)
theorem ex_isInt (Z : Std c.mg) (he : EX c Γ M e s M1) (hd : Dg M1 s d) (hg : c.sc.names.lookup ("isinstance" : Str) = some gI := by rfl) (hg2 : c.sc.names.lookup ("int" : Str) = some gI := by rfl) (h1 : ∀ env, starEach [e, .Name "int" p2] env = (false, eval e env) :: starEach [.Name "int" p2] env := by intro _; rfl) :
    EX c Γ M (.Call (.Name "isinstance" p) [e, .Name "int" p2] [] pos) (.d (.bool (isA (kd d) "int"))) M1 := ex_isi Z he hd Z.int boot_int (by decide) hg hg2 h1
theorem ex_isBool (Z : Std c.mg) (he : EX c Γ M e s M1) (hd : Dg M1 s d) (hg : c.sc.names.lookup ("isinstance" : Str) = some gI := by rfl) (hg2 : c.sc.names.lookup ("bool" : Str) = some gI := by rfl) (h1 : ∀ env, starEach [e, .Name "bool" p2] env = (false, eval e env) :: starEach [.Name "bool" p2] env := by intro _; rfl) :
    EX c Γ M (.Call (.Name "isinstance" p) [e, .Name "bool" p2] [] pos) (.d (.bool (isA (kd d) "bool"))) M1 := ex_isi Z he hd Z.bool boot_bool (by decide) hg hg2 h1
theorem ex_isTuple (Z : Std c.mg) (he : EX c Γ M e s M1) (hd : Dg M1 s d) (hg : c.sc.names.lookup ("isinstance" : Str) = some gI := by rfl) (hg2 : c.sc.names.lookup ("tuple" : Str) = some gI := by rfl) (h1 : ∀ env, starEach [e, .Name "tuple" p2] env = (false, eval e env) :: starEach [.Name "tuple" p2] env := by intro _; rfl) :
    EX c Γ M (.Call (.Name "isinstance" p) [e, .Name "tuple" p2] [] pos) (.d (.bool (isA (kd d) "tuple"))) M1 := ex_isi Z he hd Z.tuple boot_tuple (by decide) hg hg2 h1
theorem ex_isStr (Z : Std c.mg) (he : EX c Γ M e s M1) (hd : Dg M1 s d) (hg : c.sc.names.lookup ("isinstance" : Str) = some gI := by rfl) (hg2 : c.sc.names.lookup ("str" : Str) = some gI := by rfl) (h1 : ∀ env, starEach [e, .Name "str" p2] env = (false, eval e env) :: starEach [.Name "str" p2] env := by intro _; rfl) :
    EX c Γ M (.Call (.Name "isinstance" p) [e, .Name "str" p2] [] pos) (.d (.bool (isA (kd d) "str"))) M1 := ex_isi Z he hd Z.str boot_str (by decide) hg hg2 h1
theorem ex_len {n : Nat} (Z : Std c.mg) (he : EX c Γ M e s M1) (h : Ln M1 s n) (hg : c.sc.names.lookup ("len" : Str) = some gI := by rfl) (h1 : One e := by intro _; rfl) : EX c Γ M (.Call (.Name "len" p) [e] [] pos) (.d (.int n)) M1 :=
  ex_callB (cs_len h) (ea_cons he ea_nil h1) Z.len boot_len hg (he := h1)
theorem ex_list1 {ss : List S} (Z : Std c.mg) (he : EX c Γ M e s M1) (h : Sq M1 s ss) (hg : c.sc.names.lookup ("list" : Str) = some gI := by rfl) (h1 : One e := by intro _; rfl) : EX c Γ M (.Call (.Name "list" p) [e] [] pos) (.p M1.length) (M1 ++ [.lst ss]) :=
  ex_callTy (cs_list h) (ea_cons he ea_nil h1) Z.list boot_list hg (he := h1)
/-! ### tuples of a kind -/
theorem new_tupQ {K : PySem.W.Frag} {T : Tb} {H0 H : Hp} {as0 as : List Addr} {vs : List V} {ds : List PyData} {Q : VK} {b : Bool} {u : HO} (D : DenM K T H0 as0 M as H) {p : Addr} (hp : H p = none) (hu : QO b u vs) (hs : ImAll K H vs ds)
    (k : ∀ z as' H', Le as H as' H' → DenM K T H0 as0 M as' H' → SV K H' as' (.q b ds) z → Q z H') : Q (.ref p) (upd H p u) :=
  have sm := Same.new (o := u) hp
  k (.ref p) as _ (.h (Same.tk sm)) (D.grow sm) (.q (by
    cases b with
    | true =>
      obtain ⟨o, rfl, h2, h3⟩ := hu
      exact ⟨o, upd_same, h2, h3⟩
    | false =>
      cases (show u = _ from hu)
      exact upd_same) (ImAll.keep (Same.tk sm) hs))
theorem ex_tupB (b : Bool) {ds : List PyData} {k0 : Nat} (h : EA c Γ M es rs M1) (hd : allD rs = some ds) (hl : rs.length ≤ 1000) : EX c Γ M (.Tuple es k0 pos) (.q b ds) M1 := by
  constructor
  intro X H0 as0 o as σ H Q D k
  refine tE_of (pe_tupQ b (pA X es)) ?_
  refine h.run X H0 as0 o as σ H _ D fun us as1 H1 l1 D1 s1 => ⟨?_, fun p u hu hp => ?_⟩
  · rw [← s1.length]
    exact Nat.le_trans hl (by decide)
  · exact new_tupQ D1 hp hu (allD_some hd s1) fun z as2 H2 l2 D2 s2 => k z as2 H2 (l1.trans l2) D2 s2
theorem cs_tupleB (b : Bool) {ds : List PyData} {m : MO} (hm : M[k]? = some m) (hl : LItems m (ds.map S.d)) : CS c (.type "tuple") [.p k] M (.q b ds) M :=
  cs_of (fun X => rTupQ b X.K) (fun X o => cr_tupQ b) fun X H0 as0 o as H vs Q D sv q => by
    obtain ⟨v, rfl, s1⟩ := sv1 sv
    cases s1 with
    | p ea =>
      obtain ⟨us, h1, h2⟩ := hl.seq (D.mem _ _ _ hm ea)
      rw [o.K]
      exact ⟨_, us, rfl, h1, fun p u hu hp => new_tupQ D hp hu (SVs.data h2) q⟩
theorem ex_tuple1 (b : Bool) {ds : List PyData} {m : MO} (Z : Std c.mg) (he : EX c Γ M e (.p k) M1) (hm : M1[k]? = some m) (hl : LItems m (ds.map S.d)) (hg : c.sc.names.lookup ("tuple" : Str) = some gI := by rfl) (h1 : One e := by intro _; rfl) : EX c Γ M (.Call (.Name "tuple" p) [e] [] pos) (.q b ds) M1 :=
  ex_callTy (cs_tupleB b hm hl) (ea_cons he ea_nil h1) Z.tuple boot_tuple hg (he := h1)
abbrev rgD (n : Nat) : List PyData := (List.range n).map fun i : Nat => PyData.int i
theorem rg_im {K : PySem.W.Frag} {H : Hp} (n : Nat) : ImAll K H (rgV 0 (n : Int)) (rgD n) := by
  unfold rgV rgD
  rw [show ((n : Int) - 0).toNat = n from by omega]
  induction (List.range n) with
  | nil => exact .nil
  | cons x xs ih =>
    refine .cons ?_ ih
    show Im K H (.int (0 + (x : Int))) (.int x)
    rw [Int.zero_add]
    exact .int _
def tX1 (X : Cx) (e : Expr) : L2.St → Hp → (Int → Int → Hp → Prop) → Prop := tRg1 (tE X e)
theorem ex_tupRg (b : Bool) {n : Nat} (Z : Std c.mg) (he : EX c Γ M e (.d (.int n)) M1) (hn : n ≤ 16777216 := by first | omega | decide) (hg : c.sc.names.lookup ("tuple" : Str) = some gI := by rfl) (hg2 : c.sc.names.lookup ("range" : Str) = some gI := by rfl) (h1 : One e := by intro _; rfl) :
    EX c Γ M (.Call (.Name "tuple" p) [.Call (.Name "range" p2) [e] [] p3] [] pos) (.q b (rgD n)) M1 := by
  constructor
  intro X H0 as0 o as σ H Q D k
  refine tE_of (pe_tupRgQ b o.calm (gl_ok o hg) (by rw [o.mg]; exact Z.tuple) (prg_1 (gl_ok o hg2) (by rw [o.mg]; exact Z.range) (pE X e) (h1 _))) ?_
  refine he.run X H0 as0 o as σ H _ D fun v as1 H1 l1 D1 s1 => ?_
  cases sv_int s1
  exact ⟨_, rfl, RgOk.of_le (by omega) (by omega) (by omega) (by omega), fun q u hu hq => new_tupQ D1 hq hu (rg_im n) fun z as2 H2 l2 D2 s2 => k z as2 H2 (l1.trans l2) D2 s2⟩
theorem ex_listRg {n : Nat} (Z : Std c.mg) (he : EX c Γ M e (.d (.int n)) M1) (hn : n ≤ 16777216 := by first | omega | decide) (hg : c.sc.names.lookup ("list" : Str) = some gI := by rfl) (hg2 : c.sc.names.lookup ("range" : Str) = some gI := by rfl) (h1 : One e := by intro _; rfl) :
    EX c Γ M (.Call (.Name "list" p) [.Call (.Name "range" p2) [e] [] p3] [] pos) (.p M1.length) (M1 ++ [.lst ((rgD n).map S.d)]) := by
  constructor
  intro X H0 as0 o as σ H Q D k
  refine tE_of (pe_listRg o.calm (gl_ok o hg) (by rw [o.mg]; exact Z.list) (prg_1 (gl_ok o hg2) (by rw [o.mg]; exact Z.range) (pE X e) (h1 _))) ?_
  refine he.run X H0 as0 o as σ H _ D fun v as1 H1 l1 D1 s1 => ?_
  cases sv_int s1
  exact ⟨_, rfl, RgOk.of_le (by omega) (by omega) (by omega) (by omega), fun q hq => new_obj D1 hq no_lst (mok_lst hq (SVs.ofData (rg_im n))) no_oth fun z as2 H2 l2 D2 s2 => k z as2 H2 (l1.trans l2) D2 s2⟩
def cutD (xs : List PyData) (lo hi : Option Int) : List PyData := (xs.drop (HT.sIx xs.length 0 lo)).take (HT.sIx xs.length xs.length hi - HT.sIx xs.length 0 lo)
theorem cut_im {K : PySem.W.Frag} {H : Hp} {ss : List PyData} {vs : List V} {lo hi : Option Int} (h : ImAll K H vs ss) : ImAll K H (cutV vs lo hi) (cutD ss lo hi) := by
  unfold cutD cutV
  rw [h.length]
  exact (h.drop _).take _
theorem cut_whole {ds : List PyData} {lo hi : Option Int} (h : HT.sIx ds.length 0 lo = 0 ∧ HT.sIx ds.length ds.length hi = ds.length) : cutD ds lo hi = ds := by
  unfold cutD
  rw [h.1, h.2]
  simp
theorem ex_slTB {b : Bool} {ds : List PyData} {lo hi : Option Expr} {l h : Option Int} (ha : EX c Γ M a (.q b ds) M1) (hl : EO c Γ M1 lo l M2) (hh : EO c Γ M2 hi h M3) : EX c Γ M (.Subscript a (.Slice lo hi none p2) pos) (.q b (cutD ds l h)) M3 := by
  constructor
  intro X H0 as0 o as σ H Q D w
  refine tE_of (pe_slice (sl_tupQ b) (pE X a) (pO X lo) (pO X hi)) ?_
  refine ha.run X H0 as0 o as σ H _ D fun u as1 H1 l1 D1 s1 => ?_
  refine hl.run o (D.next l1 D1) fun as2 H2 l2 D2 => ?_
  refine hh.run o (D.next (l1.trans l2) D2) fun as3 H3 l3 D3 => ?_
  rw [o.K]
  have s3 := s1.le (l2.trans l3)
  cases s3 with
  | q e f =>
    refine ⟨_, _, rfl, .inl e.rd, fun hw => ?_, fun hw p u hu hp => ?_⟩
    · refine w _ as3 H3 ((l1.trans l2).trans l3) D3 ?_
      rw [f.length] at hw
      rw [cut_whole hw]
      exact .q e f
    · exact new_tupQ D3 hp hu (cut_im f) fun z as4 H4 l4 D4 s4 => w z as4 H4 (((l1.trans l2).trans l3).trans l4) D4 s4
theorem os_catB {b : Bool} {xs ys : List PyData} (hl : xs.length + ys.length ≤ 1000000) : OS c (binaryOp .Add) (.q b xs) (.q b ys) M (.q b (xs ++ ys)) M :=
  os_of (fun X => rCatQ b X.K) (fun X o => op_catQ b) fun X H0 as0 o as H u v Q D sx sy q => by
    rw [o.K]
    cases sx with
    | q e f =>
      cases sy with
      | q e2 f2 =>
        refine ⟨_, _, _, _, rfl, rfl, .inl e.rd, .inl e2.rd, ?_, fun z => ?_, fun z z2 => ?_, fun z z2 p u hu hp => ?_⟩
        · rw [f.length, f2.length]
          exact Nat.le_trans hl (by decide)
        · subst z
          cases f
          exact q _ as H (Le.refl _ _) D (.q e2 f2)
        · subst z2
          cases f2
          rw [List.append_nil] at q
          exact q _ as H (Le.refl _ _) D (.q e f)
        · exact new_tupQ D hp hu (f.append f2) q
/-- t.index(n), t a plain tuple of ints -/
theorem ex_indexT {ns : List Int} {n : Nat} (ho : EX c Γ M o (.q true (ns.map PyData.int)) M1) (ha : EX c Γ M1 e (.d (.int i)) M2) (hi : ns[n]? = some i) (hno : ∀ m, m < n → ns[m]? ≠ some i)
    (hbase : ∀ env, attributeBase o "index" env (eval o env) = eval o env := by intro _; rfl)
    (hfew : ∀ env, ((backTo pos (starEach [e] env)).all (fun x => !x.1) && (backToKw pos (keywordEach [] env)).all (fun x => x.1.isSome) && decide (([e] : List Expr).length + ([] : List Keyword).length + (if ([] : List Keyword).isEmpty then 0 else 1) < 30)) = true := by intro _; rfl)
    (hline : (apos.endLine == pos.line) = true := by rfl) (he : One e := by intro _; rfl) : EX c Γ M (.Call (.Attribute o "index" apos) [e] [] pos) (.d (.int (n : Nat))) M2 := by
  constructor
  intro X H0 as0 oo as σ H Q D k
  refine tE_of (pe_bmT PySem.F.slot_tuple_index PySem.F.type_tuple_index mt_indexT (pE X o) (pA X _) (hbase _) (hfew _) hline (he _) rfl) ?_
  refine ho.run X H0 as0 oo as σ H _ D fun v as1 H1 l1 D1 s1 => ?_
  cases s1 with
  | q e f =>
    obtain ⟨ob, h1, h2, h3⟩ := (show ∃ o, _ from e)
    refine ⟨⟨_, ob, _, rfl, h1, h2, h3⟩, ?_⟩
    refine (ea_cons ha ea_nil he).run X H0 as0 oo as1 σ H1 _ (D.next l1 D1) fun vs as2 H2 l2 D2 s2 => ?_
    obtain ⟨w, rfl, s3⟩ := sv1 s2
    cases sv_int s3
    have hq := ImAll.ints f
    subst hq
    rw [oo.K]
    have h4 : SqT c.K H2 _ (ns.map V.int) := .inl (l2.tk.r (.inr ⟨ob, h1⟩))
    refine ⟨_, ns.map V.int, .int i, n, .int i, rfl, rfl, h4, rfl, ?_, ?_, ?_, fun m z hm hz => ?_, k _ as2 H2 (l1.trans l2) D2 (.d (.int _))⟩
    · rw [List.all_map]
      exact List.all_eq_true.mpr fun _ _ => rfl
    · rw [List.getElem?_map, hi]
      rfl
    · exact beq_self_eq_true _
    · rw [List.getElem?_map] at hz
      cases hg : ns[m]? with
      | none =>
        rw [hg] at hz
        cases hz
      | some y =>
        rw [hg] at hz
        cases hz
        have ne : y ≠ i := fun h => hno m hm (by rw [hg, h])
        exact beq_eq_false_iff_ne.mpr ne
end
end DL

namespace DL
open PySem PySem.Spec PyProof.Rows L2 DX
section
variable {c : Cs} {Γ Γ1 Γ2 : Gm} {M M' M1 M2 M3 : Sto} {e a b o iter tg : Expr} {es : List Expr} {r x y z s : S} {rs : List S} {pos p p2 p3 apos : Pos} {i j : Int} {k : Nat} {f : Str} {N : Nd} {d : PyData}
/-! ### ints -/
theorem ex_neg (he : EX c Γ M e (.d (.int i)) M1) : EX c Γ M (.UnaryOp .USub e pos) (.d (.int (-i))) M1 := by
  constructor
  intro X H0 as0 o as σ H Q D k
  refine tE_of (pe_un un_neg (pE X e)) ?_
  refine he.run X H0 as0 o as σ H _ D fun v as1 H1 l1 D1 s1 => ?_
  cases sv_int s1
  exact ⟨i, rfl, k _ as1 H1 l1 D1 (.d (.int _))⟩
theorem cs_abs : CS c (.builtin "abs") [.d (.int i)] M (.d (.int (if i < 0 then -i else i))) M :=
  cs_of (fun X xs H Q => ∃ i, xs = [.int i] ∧ Q (.int (if i < 0 then -i else i)) H) (fun X o => call_abs) fun X H0 as0 o as H vs Q D sv q => by
    obtain ⟨v, rfl, s1⟩ := sv1 sv
    cases sv_int s1
    exact ⟨i, rfl, q _ as H (Le.refl _ _) D (.d (.int _))⟩
theorem ex_abs (Z : Std c.mg) (he : EX c Γ M e (.d (.int i)) M1) (hg : c.sc.names.lookup ("abs" : Str) = some gI := by rfl) (h1 : One e := by intro _; rfl) : EX c Γ M (.Call (.Name "abs" p) [e] [] pos) (.d (.int (if i < 0 then -i else i))) M1 :=
  ex_callB cs_abs (ea_cons he ea_nil h1) Z.abs boot_abs hg (he := h1)
theorem cs_min2 : CS c (.builtin "min") [.d (.int i), .d (.int j)] M (.d (.int (if j < i then j else i))) M :=
  cs_of (fun X xs H Q => ∃ i j, xs = [.int i, .int j] ∧ Q (.int (if j < i then j else i)) H) (fun X o => call_min2 o.calm) fun X H0 as0 o as H vs Q D sv q => by
    obtain ⟨v, w, rfl, s1, s2⟩ := sv2 sv
    cases sv_int s1
    cases sv_int s2
    exact ⟨i, j, rfl, q _ as H (Le.refl _ _) D (.d (.int _))⟩
theorem ex_min2 (Z : Std c.mg) (he : EX c Γ M e (.d (.int i)) M1) (ha : EX c Γ M1 a (.d (.int j)) M2) (hg : c.sc.names.lookup ("min" : Str) = some gI := by rfl) (h1 : Two e a := by intro _; rfl) (h2 : One a := by intro _; rfl) : EX c Γ M (.Call (.Name "min" p) [e, a] [] pos) (.d (.int (if j < i then j else i))) M2 :=
  ex_callB cs_min2 (ea_cons he (ea_cons ha ea_nil h2) h1) Z.min boot_min hg (he := h1) (hpl := fun env => by rw [h2]; rfl)
theorem cs_max2 : CS c (.builtin "max") [.d (.int i), .d (.int j)] M (.d (.int (if j > i then j else i))) M :=
  cs_of (fun X xs H Q => ∃ i j, xs = [.int i, .int j] ∧ Q (.int (if j > i then j else i)) H) (fun X o => call_max2 o.calm) fun X H0 as0 o as H vs Q D sv q => by
    obtain ⟨v, w, rfl, s1, s2⟩ := sv2 sv
    cases sv_int s1
    cases sv_int s2
    exact ⟨i, j, rfl, q _ as H (Le.refl _ _) D (.d (.int _))⟩
theorem ex_max2 (Z : Std c.mg) (he : EX c Γ M e (.d (.int i)) M1) (ha : EX c Γ M1 a (.d (.int j)) M2) (hg : c.sc.names.lookup ("max" : Str) = some gI := by rfl) (h1 : Two e a := by intro _; rfl) (h2 : One a := by intro _; rfl) : EX c Γ M (.Call (.Name "max" p) [e, a] [] pos) (.d (.int (if j > i then j else i))) M2 :=
  ex_callB cs_max2 (ea_cons he (ea_cons ha ea_nil h2) h1) Z.max boot_max hg (he := h1) (hpl := fun env => by rw [h2]; rfl)
/-! ### all, any -/
abbrev boolsS (bs : List Bool) : List S := bs.map fun q => S.d (.bool q)
theorem bools_sv {K : PySem.W.Frag} {H : Hp} {as : List Addr} : ∀ {bs : List Bool} {vs : List V}, SVs K H as (boolsS bs) vs → vs = bs.map V.bl
  | [], _, h => by cases h; rfl
  | q :: bs, _, h => by
    cases h with
    | cons a t => cases sv_bool a; rw [bools_sv t]; rfl
theorem cs_all {bs : List Bool} {m : MO} (hm : M[k]? = some m) (hl : LItems m (boolsS bs)) : CS c (.builtin "all") [.p k] M (.d (.bool (bs.all id))) M :=
  cs_of (fun X => rAll X.K) (fun X o => cr_all o.calm) fun X H0 as0 o as H vs Q D sv q => by
    obtain ⟨v, rfl, s1⟩ := sv1 sv
    cases s1 with
    | p ea =>
      obtain ⟨us, h1, h2⟩ := hl.seq (D.mem _ _ _ hm ea)
      cases bools_sv h2
      rw [o.K]
      exact ⟨_, bs, rfl, h1, q _ as H (Le.refl _ _) D (.d (.bl _))⟩
theorem cs_any {bs : List Bool} {m : MO} (hm : M[k]? = some m) (hl : LItems m (boolsS bs)) : CS c (.builtin "any") [.p k] M (.d (.bool (bs.any id))) M :=
  cs_of (fun X => rAny X.K) (fun X o => cr_any o.calm) fun X H0 as0 o as H vs Q D sv q => by
    obtain ⟨v, rfl, s1⟩ := sv1 sv
    cases s1 with
    | p ea =>
      obtain ⟨us, h1, h2⟩ := hl.seq (D.mem _ _ _ hm ea)
      cases bools_sv h2
      rw [o.K]
      exact ⟨_, bs, rfl, h1, q _ as H (Le.refl _ _) D (.d (.bl _))⟩
theorem ex_all {bs : List Bool} {m : MO} (Z : Std c.mg) (he : EX c Γ M e (.p k) M1) (hm : M1[k]? = some m) (hl : LItems m (boolsS bs)) (hg : c.sc.names.lookup ("all" : Str) = some gI := by rfl) (h1 : One e := by intro _; rfl) : EX c Γ M (.Call (.Name "all" p) [e] [] pos) (.d (.bool (bs.all id))) M1 :=
  ex_callB (cs_all hm hl) (ea_cons he ea_nil h1) Z.all boot_all hg (he := h1)
theorem ex_any {bs : List Bool} {m : MO} (Z : Std c.mg) (he : EX c Γ M e (.p k) M1) (hm : M1[k]? = some m) (hl : LItems m (boolsS bs)) (hg : c.sc.names.lookup ("any" : Str) = some gI := by rfl) (h1 : One e := by intro _; rfl) : EX c Γ M (.Call (.Name "any" p) [e] [] pos) (.d (.bool (bs.any id))) M1 :=
  ex_callB (cs_any hm hl) (ea_cons he ea_nil h1) Z.any boot_any hg (he := h1)
/-! ### sorted, repr -/
theorem ints_s (ns : List Int) : (ns.map PyData.int).map S.d = intsS ns := by rw [List.map_map]; rfl
theorem items_ints {K : PySem.W.Frag} {H : Hp} {as : List Addr} {vs : List V} {ns : List Int} (h : SVs K H as (intsS ns) vs) : vs = ns.map V.int := by
  rw [← ints_s] at h
  exact (SVs.data h).ints
theorem cs_sortedT {ns ms : List Int} (hx : Items x (intsS ns)) (hm : ms.Perm ns) (hs : ms.Pairwise (· ≤ ·)) : CS c (.builtin "sorted") [x] M (.p M.length) (M ++ [.lst (intsS ms)]) :=
  cs_of (fun X => rSortedT X.K) (fun X o => cr_sortedT) fun X H0 as0 o as H vs Q D sv q => by
    obtain ⟨v, rfl, s1⟩ := sv1 sv
    obtain ⟨a, us, rfl, h1, h2⟩ := hx.sv s1
    cases items_ints h2
    rw [o.K]
    refine ⟨a, ns, rfl, .inl h1, fun ns' p hp hs' hn => ?_⟩
    have e : ns' = ms := List.Perm.eq_of_pairwise (le := (· ≤ ·)) (fun a b _ _ h h' => Int.le_antisymm h h') hs' hs (hp.trans hm.symm)
    subst e
    exact new_obj D hn no_lst (mok_lst hn (ints_sv ns')) no_oth q
theorem ex_sortedT {ns ms : List Int} (Z : Std c.mg) (he : EX c Γ M e x M1) (hx : Items x (intsS ns)) (hm : ms.Perm ns) (hs : ms.Pairwise (· ≤ ·)) (hg : c.sc.names.lookup ("sorted" : Str) = some gI := by rfl) (h1 : One e := by intro _; rfl) : EX c Γ M (.Call (.Name "sorted" p) [e] [] pos) (.p M1.length) (M1 ++ [.lst (intsS ms)]) :=
  ex_callB (cs_sortedT hx hm hs) (ea_cons he ea_nil h1) Z.sorted boot_sorted hg (he := h1)
theorem cs_sortedL {ns ms : List Int} {m : MO} (hk : M[k]? = some m) (hl : LItems m (intsS ns)) (hm : ms.Perm ns) (hs : ms.Pairwise (· ≤ ·)) : CS c (.builtin "sorted") [.p k] M (.p M.length) (M ++ [.lst (intsS ms)]) :=
  cs_of (fun X => rSortedI X.K) (fun X o => cr_sortedI) fun X H0 as0 o as H vs Q D sv q => by
    obtain ⟨v, rfl, s1⟩ := sv1 sv
    cases s1 with
    | p ea =>
      obtain ⟨us, h1, h2⟩ := hl.seq (D.mem _ _ _ hk ea)
      cases items_ints h2
      rw [o.K]
      refine ⟨_, ns, rfl, h1, fun ns' p hp hs' hn => ?_⟩
      have e : ns' = ms := List.Perm.eq_of_pairwise (le := (· ≤ ·)) (fun a b _ _ h h' => Int.le_antisymm h h') hs' hs (hp.trans hm.symm)
      subst e
      exact new_obj D hn no_lst (mok_lst hn (ints_sv ns')) no_oth q
theorem ex_sortedL {ns ms : List Int} {m : MO} (Z : Std c.mg) (he : EX c Γ M e (.p k) M1) (hk : M1[k]? = some m) (hl : LItems m (intsS ns)) (hm : ms.Perm ns) (hs : ms.Pairwise (· ≤ ·)) (hg : c.sc.names.lookup ("sorted" : Str) = some gI := by rfl) (h1 : One e := by intro _; rfl) : EX c Γ M (.Call (.Name "sorted" p) [e] [] pos) (.p M1.length) (M1 ++ [.lst (intsS ms)]) :=
  ex_callB (cs_sortedL hk hl hm hs) (ea_cons he ea_nil h1) Z.sorted boot_sorted hg (he := h1)
def isSeqD : PyData → Bool
  | .list _ => true
  | .tuple _ => true
  | _ => false
theorem seq_ref {K : PySem.W.Frag} {T : Tb} {H0 H : Hp} {as0 as : List Addr} {v : V} (h : Dg M s d) (r : SV K H as s v) (q : isSeqD d = true) : ∃ a, v = .ref a := by
  cases h with
  | d =>
    cases r with
    | d h => cases h with
      | tup _ _ => exact ⟨_, rfl⟩
      | _ => cases q
  | q => cases r with | q _ _ => exact ⟨_, rfl⟩
  | l _ _ _ => cases r with | p _ => exact ⟨_, rfl⟩
  | t _ => cases r with | t _ _ => exact ⟨_, rfl⟩
theorem cs_repr (hd : Dg M s d) (hq : isSeqD d = true) (hs : d.showable = true) (hn : d.hasDict = false) (h60 : d.depth ≤ 60) (hl : d.shown.length ≤ sizeLine) : CS c (.builtin "repr") [s] M (.d (.str d.shown)) M :=
  cs_of (fun X => rRepr X.K) (fun X o => cr_repr o.gd o.room.units) fun X H0 as0 o as H vs Q D sv q => by
    obtain ⟨v, rfl, s1⟩ := sv1 sv
    obtain ⟨a, rfl⟩ := seq_ref (K := c.K) (T := c.T) (H0 := H0) (as0 := as0) hd s1 hq
    rw [o.K]
    exact ⟨a, d, rfl, hd.dp D s1, hs, hn, h60, hl, q _ as H (Le.refl _ _) D (.d (.str _))⟩
theorem ex_repr (Z : Std c.mg) (he : EX c Γ M e s M1) (hd : Dg M1 s d) (hq : isSeqD d = true) (hs : d.showable = true) (hn : d.hasDict = false) (h60 : d.depth ≤ 60) (hl : d.shown.length ≤ sizeLine) (hg : c.sc.names.lookup ("repr" : Str) = some gI := by rfl) (h1 : One e := by intro _; rfl) : EX c Γ M (.Call (.Name "repr" p) [e] [] pos) (.d (.str d.shown)) M1 :=
  ex_callB (cs_repr hd hq hs hn h60 hl) (ea_cons he ea_nil h1) Z.repr boot_repr hg (he := h1)
theorem ex_lenSet {ns : List Int} (Z : Std c.mg) (he : EX c Γ M e x M1) (hx : Items x (intsS ns)) (hl : ns.length ≤ 1000) (hg : c.sc.names.lookup ("len" : Str) = some gI := by rfl) (hg2 : c.sc.names.lookup ("set" : Str) = some gI := by rfl) (h1 : One e := by intro _; rfl) :
    EX c Γ M (.Call (.Name "len" p) [.Call (.Name "set" p2) [e] [] p3] [] pos) (.d (.int ((dd ns).length : Nat))) M1 := by
  constructor
  intro X H0 as0 o as σ H Q D k
  refine tE_of (pe_lenSetT (gl_ok o hg) (by rw [o.mg]; exact Z.len) (gl_ok o hg2) (by rw [o.mg]; exact Z.set) (pE X e) o.calm (h1 _)) ?_
  refine he.run X H0 as0 o as σ H _ D fun v as1 H1 l1 D1 s1 => ?_
  obtain ⟨a, us, rfl, h1, h2⟩ := hx.sv s1
  cases items_ints h2
  rw [o.K]
  exact ⟨a, ns, rfl, .inl h1, hl, k _ as1 H1 l1 D1 (.d (.int _))⟩
/-! ### enumerate over a tuple -/
theorem ix_enumT {args : Expr} {k0 : Nat} {elts : List Expr} {tpos : Pos} {ss : List S} (he : EX c Γ M args x M1) (hx : Items x ss) (hmg : c.mg ("enumerate" : Str) = none) (hg : c.sc.names.lookup ("enumerate" : Str) = some gI := by rfl) (hs : ∀ env, starEach [args] env = [(false, eval args env)] := by intro _; rfl) :
    IX c Γ M (.Tuple elts k0 tpos) (.Call (.Name "enumerate" p) [args] [] pos) ss.length (fun _ => True) (fun i => mkT [.d (.int (i : Nat)), ss.getD i (.d .none)]) M1 := by
  constructor
  intro X H0 as0 o as σ H R D q
  refine tI_of (pi_enumT (gl_ok o hg) (by rw [o.mg]; exact hmg) (pA X [args]) (hs _)) ?_
  refine (ea_cons he ea_nil (fun env => by rw [hs]; rfl)).run X H0 as0 o as σ H _ D fun vs as1 H1 l1 D1 s1 => ?_
  obtain ⟨v, rfl, s2⟩ := sv1 s1
  obtain ⟨a, us, rfl, h1, h2⟩ := hx.sv s2
  rw [o.K]
  have keep : ∀ {as2 H2}, Le as1 H1 as2 H2 → SqT c.K H2 a us ∧ SVs c.K H2 as2 ss us := fun p => ⟨.inl (p.tk.r h1), h2.le p⟩
  refine ⟨a, us, rfl, .inl h1, q _ as1 H1 l1 D1 ⟨fun i as2 H2 M2 hi p2 D2 g2 => ?_, fun i as2 H2 M2 x H3 hi p2 D2 g2 y => ?_, fun as2 H2 M2 p2 D2 g2 => ?_⟩⟩
  · obtain ⟨hw, sw⟩ := keep p2
    obtain ⟨v, ev, _⟩ := sw.at (List.getElem?_eq_getElem hi)
    exact ⟨us, v, hw, ev⟩
  · obtain ⟨hw, sw⟩ := keep p2
    obtain ⟨T, w, rfl, hT, rfl, hy⟩ := y
    obtain ⟨v, ev, sv⟩ := sw.at (List.getElem?_eq_getElem hi)
    have ex := hy us hw
    rw [ev] at ex
    cases ex
    refine ⟨Same.new hT, mkT_sv (.cons (.d (.int _)) (.cons ?_ .nil)) (.inl upd_same)⟩
    have : SV c.K H2 as2 (ss.getD i (.d .none)) w := by simpa [List.getD, List.getElem?_eq_getElem hi] using sv
    exact this.le (.h (Same.tk (Same.new hT)))
  · obtain ⟨hw, sw⟩ := keep p2
    exact ⟨us, hw, sw.length.symm⟩
/-! ### targets -/
/-- l[i] = .. -/
theorem gx_subL {ss : List S} {n : Nat} (ho : EX c Γ M o (.p k) M1) (hi : EX c Γ M1 e (.d (.int i)) M2) (hk : M2[k]? = some (.lst ss)) (hn : L2.ixN ss.length i = some n)
    (ha : ∀ env v, assign (.Subscript o e pos) env v = (do
      let ov ← holding [v] (eval o env)
      let iv ← holding [v, ov] (eval e env)
      standAt pos
      holding [v, ov, iv] (setItem ov iv v)
      release [v, ov, iv] []) := by intro _ _; rfl) : GX c Γ M (.Subscript o e pos) s Γ (M2.set k (.lst (ss.set n s))) := by
  constructor
  intro X H0 as0 oo as σ H v Q D r q
  refine tG_of (pg_sub (pE X o) (pE X e) set_list (ha _)) ?_
  refine ho.run X H0 as0 oo as σ H _ D fun u as1 H1 l1 D1 s1 => ?_
  refine hi.run X H0 as0 oo as1 σ H1 _ (D.next l1 D1) fun w as2 H2 l2 D2 s2 => ?_
  cases sv_int s2
  cases s1 with
  | p ea =>
    have ea2 := pre_get l2.pre ea
    obtain ⟨vs, h1, h2⟩ := D2.mem _ _ _ hk ea2
    refine ⟨_, vs, i, n, rfl, rfl, h1, by rw [← h2.length]; exact hn, ?_⟩
    have t : ∀ o, Tk H2 (upd H2 _ o) := fun o => Tk.mut h1 (fun z => by rcases z with ⟨_, z⟩ | ⟨_, _, z⟩ <;> cases z)
    have hlt : k < M2.length := (List.getElem?_eq_some_iff.mp hk).1
    have D3 := D2.write (m := .lst (ss.set n s)) hlt ea2 h1 (no_lst (xs := vs.set n v)) ⟨_, upd_same, ((h2.set (r.le (l1.trans l2)) n)).le (.h (t _))⟩ no_oth
    exact q as2 σ _ ((l1.trans l2).trans (.h (t _))) (D.next ((l1.trans l2).trans (.h (t _))) D3)
/-- a, b, c = x, y, z -/
theorem sx_par3 (i j l : Nat) {v u w : Str} {a b e : Expr} {px py pz pt pt2 : Pos} {kt k2 : Nat} (ha : EA c Γ M [a, b, e] [x, y, z] M1) (hq : N.nx (((Γ.set i (some x)).set j (some y)).set l (some z)) M1) (hi : c.N[i]? = some v := by rfl) (hj : c.N[j]? = some u := by rfl) (hl : c.N[l]? = some w := by rfl) (hij : i ≠ j := by decide) (hil : i ≠ l := by decide) (hjl : j ≠ l := by decide)
    (hv : c.sc.names.lookup v = some .local := by rfl) (hu : c.sc.names.lookup u = some .local := by rfl) (hw' : c.sc.names.lookup w = some .local := by rfl)
    (hw : ∀ env, env.scope = c.sc → swappedStores [.Tuple [.Name v px, .Name u py, .Name w pz] kt pt] (.Tuple [a, b, e] k2 pt2) env = pure (some [v, u, w]))
    (hs : ∀ env, swapsWithSole [.Tuple [.Name v px, .Name u py, .Name w pz] kt pt] (.Tuple [a, b, e] k2 pt2) pos.line env = pure false := by intro _; rfl) : SX c Γ M (.Assign [.Tuple [.Name v px, .Name u py, .Name w pz] kt pt] (.Tuple [a, b, e] k2 pt2) pos) N := by
  constructor
  intro X H0 as0 o as σ H D d f
  refine tS_of (ps_par3 (i := i) (j := j) (l := l) o.calm o.nd' (by rw [o.N]; exact hi) (by rw [o.N]; exact hj) (by rw [o.N]; exact hl) hij hil hjl (by rw [o.sc]; exact hv) (by rw [o.sc]; exact hu) (by rw [o.sc]; exact hw') (pA X _) (hw _ o.sc) (hs _)) ?_
  refine ha.run X H0 as0 o as σ H _ d fun vs as1 H1 l1 D1 s1 => ?_
  cases s1 with
  | cons p q =>
    cases q with
    | cons p' q' =>
      cases q' with
      | cons p'' q'' =>
        cases q''
        exact ⟨_, _, _, rfl, f.nx _ _ as1 _ H1 hq l1 ((((d.next l1 D1).set p).set p').set p'')⟩
end
end DL

/-! permutations as lists: plain facts -/
namespace PL
open PySem DL
/-- the data of such -/
def tN (p : List Nat) : PyData := .tuple (p.map fun n : Nat => .int n)
abbrev dN (p : List Nat) : List PyData := p.map fun n : Nat => .int n
abbrev zN (p : List Nat) : List Int := p.map fun n : Nat => (n : Int)
theorem dN_z (p : List Nat) : dN p = (zN p).map PyData.int := by rw [List.map_map]; rfl
structure IsP (p : List Nat) : Prop where
  pos : 1 ≤ p.length
  lt : ∀ x ∈ p, x < p.length
  nd : p.Nodup
def whole (d : PyData) (lo hi : Int) : Bool := match d with
  | .int i => decide (lo ≤ i) && decide (i ≤ hi)
  | _ => false
def iv : PyData → Int
  | .int i => i
  | _ => 0
def okP (d : PyData) : Bool := match d with
  | .tuple ds => (decide (1 ≤ ds.length) && decide (ds.length ≤ 24)) && (ds.all (fun x => whole x 0 ((ds.length : Int) - 1)) && decide ((ds.map iv).Nodup))
  | _ => false
theorem whole_int {d : PyData} {lo hi : Int} (h : whole d lo hi = true) : ∃ i, d = .int i ∧ lo ≤ i ∧ i ≤ hi := by
  cases d with
  | int i =>
    simp [whole] at h
    exact ⟨i, rfl, h.1, h.2⟩
  | _ => simp [whole] at h
theorem wholes {hi : Int} : ∀ {ds : List PyData}, ds.all (fun x => whole x 0 hi) = true → ∃ p : List Nat, ds = dN p ∧ ∀ x ∈ p, (x : Int) ≤ hi
  | [], _ => ⟨[], rfl, fun _ h => by cases h⟩
  | d :: ds, h => by
    rw [List.all_cons, Bool.and_eq_true] at h
    obtain ⟨i, rfl, h1, h2⟩ := whole_int h.1
    obtain ⟨p, rfl, h3⟩ := wholes h.2
    refine ⟨i.toNat :: p, ?_, fun x hx => ?_⟩
    · show PyData.int i :: dN p = PyData.int ((i.toNat : Nat) : Int) :: dN p
      rw [Int.toNat_of_nonneg h1]
    · rcases List.mem_cons.mp hx with rfl | hx
      · omega
      · exact h3 x hx
theorem iv_dN (p : List Nat) : (dN p).map iv = zN p := by rw [List.map_map]; rfl
theorem zN_nodup {p : List Nat} : (zN p).Nodup ↔ p.Nodup := by
  constructor
  · exact fun h => (List.pairwise_map.mp h).imp fun h e => h (by rw [e])
  · exact fun h => List.pairwise_map.mpr (h.imp fun h e => h (by omega))
theorem okP_iff {d : PyData} : okP d = true ↔ ∃ p, d = tN p ∧ IsP p ∧ p.length ≤ 24 := by
  constructor
  · intro h
    cases d with
    | tuple ds =>
      simp only [okP, Bool.and_eq_true, decide_eq_true_eq] at h
      obtain ⟨⟨h1, h2⟩, h3, h4⟩ := h
      obtain ⟨p, rfl, h5⟩ := wholes h3
      have hl : (dN p).length = p.length := List.length_map ..
      rw [hl] at h1 h2 h5
      rw [iv_dN] at h4
      exact ⟨p, rfl, ⟨h1, fun x hx => by have := h5 x hx; omega, zN_nodup.mp h4⟩, h2⟩
    | _ => cases h
  · rintro ⟨p, rfl, ⟨h1, h2, h3⟩, h4⟩
    have hl : (dN p).length = p.length := List.length_map ..
    simp only [okP, tN, Bool.and_eq_true, decide_eq_true_eq, hl]
    refine ⟨⟨h1, h4⟩, List.all_eq_true.mpr fun x hx => ?_, ?_⟩
    · obtain ⟨n, hn, rfl⟩ := List.mem_map.mp hx
      have := h2 n hn
      simp only [whole, Bool.and_eq_true, decide_eq_true_eq]
      omega
    · rw [iv_dN]
      exact zN_nodup.mpr h3
theorem okP_tN {p : List Nat} : okP (tN p) = true ↔ IsP p ∧ p.length ≤ 24 := by
  rw [okP_iff]
  constructor
  · rintro ⟨q, e, h⟩
    have e' : dN p = dN q := by injection e
    have : p = q := by
      have := congrArg (List.map iv) e'
      rw [iv_dN, iv_dN] at this
      exact (List.map_inj_right (f := fun n : Nat => (n : Int)) (fun a b h => Int.ofNat.inj h)).mp this
    subst this
    exact h
  · exact fun h => ⟨p, rfl, h⟩
theorem tN_inj {p q : List Nat} (h : tN p = tN q) : p = q := by
  have e' : dN p = dN q := by injection h
  have := congrArg (List.map iv) e'
  rw [iv_dN, iv_dN] at this
  exact (List.map_inj_right (f := fun n : Nat => (n : Int)) (fun a b h => Int.ofNat.inj h)).mp this
/-! ### functions of such -/
abbrev at0 (p : List Nat) (x : Nat) : Nat := p.getD x 0
def thenL (p q : List Nat) : List Nat := p.map (at0 q)
theorem thenL_len (p q : List Nat) : (thenL p q).length = p.length := List.length_map ..
/-- the steps of own_back -/
def backN (p : List Nat) (n : Nat) : List Nat := (List.range n).foldl (fun f i => f.set (at0 p i) i) (List.replicate p.length 0)
def backL (p : List Nat) : List Nat := backN p p.length
theorem backN_succ (p : List Nat) (n : Nat) : backN p (n + 1) = (backN p n).set (at0 p n) n := by
  unfold backN
  rw [List.range_succ, List.foldl_append]
  rfl
theorem backN_len (p : List Nat) : ∀ n, (backN p n).length = p.length
  | 0 => by simp [backN]
  | n + 1 => by rw [backN_succ, List.length_set, backN_len p n]
theorem at0_mem {p : List Nat} {x : Nat} (h : x < p.length) : at0 p x ∈ p := by
  have : at0 p x = p[x] := by simp [at0, List.getD, h]
  rw [this]
  exact List.getElem_mem h
theorem at0_get {p : List Nat} {x : Nat} (h : x < p.length) : p[x]? = some (at0 p x) := by simp [at0, List.getD, h]
theorem at0_of {p : List Nat} {x y : Nat} (h : p[x]? = some y) : at0 p x = y := by simp [at0, List.getD, h]
theorem IsP.at {p : List Nat} (h : IsP p) {x : Nat} (hx : x < p.length) : at0 p x < p.length := h.lt _ (at0_mem hx)
theorem IsP.inj {p : List Nat} (h : IsP p) {x y : Nat} (hx : x < p.length) (hy : y < p.length) (e : at0 p x = at0 p y) : x = y := by
  have h1 : at0 p x = p[x] := by simp [at0, List.getD, hx]
  have h2 : at0 p y = p[y] := by simp [at0, List.getD, hy]
  rw [h1, h2] at e
  exact (List.getElem_inj h.nd).mp e
theorem backN_at {p : List Nat} (h : IsP p) : ∀ n, n ≤ p.length → ∀ i, i < n → at0 (backN p n) (at0 p i) = i
  | 0, _, i, hi => absurd hi (Nat.not_lt_zero _)
  | n + 1, hn, i, hi => by
    rw [backN_succ]
    by_cases e : i = n
    · subst e
      have hl : at0 p i < (backN p i).length := by rw [backN_len]; exact h.at (by omega)
      exact at0_of (List.getElem?_set_self hl)
    · have hne : at0 p n ≠ at0 p i := fun z => e (h.inj (by omega) (by omega) z.symm)
      show ((backN p n).set (at0 p n) n).getD (at0 p i) 0 = i
      rw [List.getD, List.getElem?_set_ne hne]
      exact backN_at h n (by omega) i (by omega)
theorem backL_at {p : List Nat} (h : IsP p) {i : Nat} (hi : i < p.length) : at0 (backL p) (at0 p i) = i := backN_at h p.length (Nat.le_refl _) i hi
theorem backL_len (p : List Nat) : (backL p).length = p.length := backN_len p _
theorem pig : ∀ (n : Nat) (l : List Nat), l.Nodup → (∀ x ∈ l, x < n) → l.length ≤ n
  | 0, l, _, h => by
    cases l with
    | nil => exact Nat.le_refl _
    | cons x _ => exact absurd (h x List.mem_cons_self) (Nat.not_lt_zero _)
  | n + 1, l, nd, h => by
    by_cases hn : n ∈ l
    · have := pig n (l.erase n) (nd.erase n) fun x hx => by
        have h1 := h x (List.mem_of_mem_erase hx)
        have h2 : x ≠ n := fun e => by
          subst e
          exact (nd.not_mem_erase) hx
        omega
      rw [List.length_erase_of_mem hn] at this
      omega
    · have := pig n l nd fun x hx => by
        have h1 := h x hx
        have h2 : x ≠ n := fun e => hn (e ▸ hx)
        omega
      omega
/-- every place is hit -/
theorem IsP.mem {p : List Nat} (h : IsP p) {y : Nat} (hy : y < p.length) : y ∈ p := by
  refine Classical.byContradiction fun hn => ?_
  have := pig p.length (y :: p) (List.nodup_cons.mpr ⟨hn, h.nd⟩) fun x hx => by
    rcases List.mem_cons.mp hx with rfl | hx
    · exact hy
    · exact h.lt x hx
  rw [List.length_cons] at this
  omega
theorem IsP.surj {p : List Nat} (h : IsP p) {y : Nat} (hy : y < p.length) : ∃ x, x < p.length ∧ at0 p x = y := by
  obtain ⟨x, hx, e⟩ := List.getElem_of_mem (h.mem hy)
  exact ⟨x, hx, by rw [← e]; simp [at0, List.getD, hx]⟩
theorem IsP.perm {p : List Nat} (h : IsP p) : p.Perm (List.range p.length) :=
  (List.perm_ext_iff_of_nodup h.nd List.nodup_range).mpr fun y => ⟨fun hy => List.mem_range.mpr (h.lt y hy), fun hy => h.mem (List.mem_range.mp hy)⟩
theorem ext0 {p q : List Nat} (hl : p.length = q.length) (h : ∀ i, i < p.length → at0 p i = at0 q i) : p = q := by
  refine List.ext_getElem hl fun i h1 h2 => ?_
  have := h i h1
  simpa [at0, List.getD, h1, h2] using this
theorem at0_map {f : Nat → Nat} {p : List Nat} {x : Nat} (h : x < p.length) : at0 (p.map f) x = f (at0 p x) := by simp [at0, List.getD, h]
theorem at0_range {f : Nat → Nat} {n x : Nat} (h : x < n) : at0 ((List.range n).map f) x = f x := by simp [at0, List.getD, h]
theorem backL_lt {p : List Nat} (h : IsP p) {y : Nat} (hy : y < p.length) : at0 (backL p) y < p.length ∧ at0 p (at0 (backL p) y) = y := by
  obtain ⟨x, hx, rfl⟩ := h.surj hy
  rw [backL_at h hx]
  exact ⟨hx, rfl⟩
theorem as_range (p : List Nat) : p = (List.range p.length).map (at0 p) := ext0 (by simp) fun i hi => (at0_range hi).symm
theorem IsP.back {p : List Nat} (h : IsP p) : IsP (backL p) := by
  have hl := backL_len p
  refine ⟨by rw [hl]; exact h.pos, fun x hx => ?_, ?_⟩
  · obtain ⟨y, hy, e⟩ := List.getElem_of_mem hx
    have : at0 (backL p) y = x := by rw [← e]; simp [at0, List.getD, hy]
    rw [hl] at hy ⊢
    rw [← this]
    exact (backL_lt h hy).1
  · rw [as_range (backL p), hl]
    refine List.pairwise_map.mpr ((List.nodup_range (n := p.length)).imp_of_mem fun {a b} ha hb hab e => hab ?_)
    have a1 := (backL_lt h (List.mem_range.mp ha)).2
    have a2 := (backL_lt h (List.mem_range.mp hb)).2
    rw [e, a2] at a1
    exact a1.symm
theorem isP_of {n : Nat} {f : Nat → Nat} (hn : 1 ≤ n) (h1 : ∀ x, x < n → f x < n) (h2 : ∀ x y, x < n → y < n → f x = f y → x = y) : IsP ((List.range n).map f) := by
  refine ⟨by simpa using hn, fun x hx => ?_, ?_⟩
  · obtain ⟨y, hy, rfl⟩ := List.mem_map.mp hx
    simpa using h1 y (List.mem_range.mp hy)
  · refine List.pairwise_map.mpr ?_
    refine (List.nodup_range (n := n)).imp_of_mem fun {a b} ha hb hab e => hab (h2 a b (List.mem_range.mp ha) (List.mem_range.mp hb) e)
theorem IsP.range {n : Nat} (h : 1 ≤ n) : IsP (List.range n) := by
  have := isP_of (f := id) h (fun x hx => hx) (fun x y _ _ e => e)
  simpa using this
theorem IsP.then {p q : List Nat} (h : IsP p) (g : IsP q) (e : p.length = q.length) : IsP (thenL p q) := by
  have : thenL p q = (List.range p.length).map fun x => at0 q (at0 p x) := by
    refine ext0 (by simp [thenL]) fun i hi => ?_
    rw [thenL_len] at hi
    rw [at0_range hi, thenL, at0_map hi]
  rw [this]
  refine isP_of h.pos (fun x hx => ?_) fun x y hx hy e2 => ?_
  · rw [e]; exact g.at (by rw [← e]; exact h.at hx)
  · exact h.inj hx hy (g.inj (by rw [← e]; exact h.at hx) (by rw [← e]; exact h.at hy) e2)
theorem then_back {p : List Nat} (h : IsP p) : thenL p (backL p) = List.range p.length := by
  refine ext0 (by simp [thenL]) fun i hi => ?_
  rw [thenL_len] at hi
  rw [thenL, at0_map hi, backL_at h hi]
  have := at0_range (f := id) hi
  simpa using this.symm
/-- the first place of y -/
def lawBack (p : List Nat) : List Nat := (List.range p.length).map fun y => p.idxOf y
theorem idx_at {p : List Nat} (h : IsP p) {y : Nat} (hy : y < p.length) : p.idxOf y = at0 (backL p) y ∧ p[p.idxOf y]? = some y ∧ ∀ m, m < p.idxOf y → p[m]? ≠ some y := by
  obtain ⟨h1, h2⟩ := backL_lt h hy
  have hm : y ∈ p := by rw [← h2]; exact at0_mem h1
  have hl : p.idxOf y < p.length := List.idxOf_lt_length_of_mem hm
  have hg : p[p.idxOf y] = y := List.getElem_idxOf hl
  have hg' : p[p.idxOf y]? = some y := by rw [List.getElem?_eq_getElem hl, hg]
  refine ⟨h.inj hl h1 ?_, hg', fun m hm' e => ?_⟩
  · rw [at0_of hg', h2]
  · have h3 : m < p.length := by omega
    have := h.inj h3 hl (by rw [at0_of e, at0_of hg'])
    omega
theorem lawBack_eq {p : List Nat} (h : IsP p) : lawBack p = backL p := by
  refine ext0 (by simp [lawBack, backL_len]) fun i hi => ?_
  have hi' : i < p.length := by simpa [lawBack] using hi
  rw [lawBack, at0_range hi']
  exact (idx_at h hi').1
end PL

/-! powers of permutations -/
namespace PL
open PySem DL
def itr (f : Nat → Nat) : Nat → Nat → Nat
  | 0, x => x
  | k + 1, x => f (itr f k x)
theorem itr_add (f : Nat → Nat) (a : Nat) : ∀ b x, itr f (a + b) x = itr f b (itr f a x)
  | 0, x => rfl
  | b + 1, x => by
    show f (itr f (a + b) x) = f (itr f b (itr f a x))
    rw [itr_add f a b x]
theorem itr_mul (f : Nat → Nat) (a : Nat) : ∀ b x, itr f (a * b) x = itr (itr f a) b x
  | 0, x => rfl
  | b + 1, x => by
    rw [Nat.mul_succ, itr_add, itr_mul f a b x]
    rfl
theorem itr_lt {p : List Nat} (h : IsP p) {x : Nat} (hx : x < p.length) : ∀ k, itr (at0 p) k x < p.length
  | 0 => hx
  | k + 1 => h.at (itr_lt h hx k)
theorem itr_inj {p : List Nat} (h : IsP p) {x y : Nat} (hx : x < p.length) (hy : y < p.length) : ∀ k, itr (at0 p) k x = itr (at0 p) k y → x = y
  | 0, e => e
  | k + 1, e => itr_inj h hx hy k (h.inj (itr_lt h hx k) (itr_lt h hy k) e)
theorem per_ex {p : List Nat} (h : IsP p) {x : Nat} (hx : x < p.length) : ∃ k, k < p.length ∧ itr (at0 p) (k + 1) x = x := by
  refine Classical.byContradiction fun hn => ?_
  have hno : ∀ k, k < p.length → itr (at0 p) (k + 1) x ≠ x := fun k hk e => hn ⟨k, hk, e⟩
  have key : ∀ i j, i < j → j ≤ p.length → itr (at0 p) i x ≠ itr (at0 p) j x := fun i j hij hj e => by
    obtain ⟨d, rfl⟩ : ∃ d, j = (d + 1) + i := ⟨j - i - 1, by omega⟩
    rw [itr_add] at e
    exact hno d (by omega) (itr_inj h hx (itr_lt h hx _) i e).symm
  have := pig p.length ((List.range (p.length + 1)).map fun k => itr (at0 p) k x) (List.pairwise_map.mpr ((List.nodup_range (n := p.length + 1)).imp_of_mem fun {a b} ha hb hab e => by
    have ha' := List.mem_range.mp ha
    have hb' := List.mem_range.mp hb
    rcases Nat.lt_or_gt_of_ne hab with z | z
    · exact key a b z (by omega) e
    · exact key b a z (by omega) e.symm)) fun y hy => by
      obtain ⟨k, _, rfl⟩ := List.mem_map.mp hy
      exact itr_lt h hx k
  rw [List.length_map, List.length_range] at this
  omega
/-- the length of the cycle of x -/
def per (p : List Nat) (x : Nat) : Nat := ((List.range p.length).find? fun k => itr (at0 p) (k + 1) x == x).getD 0 + 1
theorem find_range {n : Nat} {q : Nat → Bool} (h : ∃ k, k < n ∧ q k = true) : ∃ k, (List.range n).find? q = some k ∧ k < n ∧ q k = true ∧ ∀ j, j < k → q j = false := by
  cases e : (List.range n).find? q with
  | none =>
    obtain ⟨k, hk, hq⟩ := h
    have := List.find?_eq_none.mp e k (List.mem_range.mpr hk)
    exact absurd hq this
  | some k =>
    rw [List.find?_eq_some_iff_getElem] at e
    obtain ⟨h1, i, hi, h2, h3⟩ := e
    simp at h2 hi
    subst h2
    refine ⟨i, rfl, hi, h1, fun j hj => ?_⟩
    have := h3 j hj
    simpa using this
theorem per_spec {p : List Nat} (h : IsP p) {x : Nat} (hx : x < p.length) : 1 ≤ per p x ∧ per p x ≤ p.length ∧ itr (at0 p) (per p x) x = x ∧ ∀ j, 1 ≤ j → j < per p x → itr (at0 p) j x ≠ x := by
  obtain ⟨k0, hk0, e0⟩ := per_ex h hx
  obtain ⟨k, e, hk, hq, hno⟩ := find_range (n := p.length) (q := fun k => itr (at0 p) (k + 1) x == x) ⟨k0, hk0, by simpa using e0⟩
  have ep : per p x = k + 1 := by unfold per; rw [e]; rfl
  rw [ep]
  refine ⟨by omega, by omega, by simpa using hq, fun j h1 h2 e => ?_⟩
  have := hno (j - 1) (by omega)
  rw [show j - 1 + 1 = j from by omega] at this
  simp [e] at this
theorem itr_fix {f : Nat → Nat} {L x : Nat} (h : itr f L x = x) : ∀ k, itr f (L * k) x = x
  | 0 => rfl
  | k + 1 => by rw [Nat.mul_succ, itr_add, itr_fix h k, h]
theorem itr_mod {f : Nat → Nat} {L x : Nat} (h : itr f L x = x) (k : Nat) : itr f (k % L) x = itr f k x := by
  have e : k = L * (k / L) + k % L := (Nat.div_add_mod k L).symm
  rw [e, itr_add, itr_fix h]
  congr 1
  rw [← e]
/-- back and forth -/
theorem back_itr {p : List Nat} (h : IsP p) {x : Nat} (hx : x < p.length) : ∀ k, itr (at0 (backL p)) k (itr (at0 p) k x) = x
  | 0 => rfl
  | k + 1 => by
    have e : itr (at0 (backL p)) (k + 1) (itr (at0 p) (k + 1) x) = itr (at0 (backL p)) (1 + k) (itr (at0 p) (k + 1) x) := by rw [Nat.add_comm]
    rw [e, itr_add]
    show itr (at0 (backL p)) k (at0 (backL p) (at0 p (itr (at0 p) k x))) = x
    rw [backL_at h (itr_lt h hx k)]
    exact back_itr h hx k
/-- what power gives -/
def stepP (p : List Nat) (t : Int) : List Nat := if 0 ≤ t then p else backL p
def powL (p : List Nat) (t : Int) : List Nat := (List.range p.length).map fun x => itr (at0 (stepP p t)) t.natAbs x
/-- what the law's own gives -/
def lawPow (p : List Nat) (t : Int) : List Nat := (List.range p.length).map fun x => itr (at0 p) (t % (per p x : Int)).toNat x
theorem pow_eq {p : List Nat} (h : IsP p) (t : Int) : powL p t = lawPow p t := by
  unfold powL lawPow
  refine List.map_congr_left fun x hx => ?_
  have hx' := List.mem_range.mp hx
  obtain ⟨h1, h2, h3, _⟩ := per_spec h hx'
  have hL : (0 : Int) < (per p x : Int) := by omega
  have m0 := Int.emod_nonneg t (by omega : (per p x : Int) ≠ 0)
  unfold stepP
  by_cases ht : 0 ≤ t
  · rw [if_pos ht]
    obtain ⟨n, rfl⟩ := Int.eq_ofNat_of_zero_le ht
    have e : ((n : Int) % (per p x : Int)).toNat = n % per p x := by
      rw [← Int.natCast_emod]
      rfl
    rw [e, itr_mod h3]
    rfl
  · rw [if_neg ht]
    obtain ⟨n, hn⟩ : ∃ n : Nat, t = -(n : Int) := ⟨t.natAbs, by omega⟩
    subst hn
    have en : (-(n : Int)).natAbs = n := by omega
    rw [en]
    generalize hm : (-(n : Int) % (per p x : Int)).toNat = m
    have hmI : (m : Int) = -(n : Int) % (per p x : Int) := by omega
    -- L divides n + m
    obtain ⟨k, hk⟩ : ∃ k : Nat, n + m = per p x * k := by
      have hd := Int.emod_add_mul_ediv (-(n : Int)) (per p x : Int)
      rw [← hmI] at hd
      refine ⟨(-(-(n : Int) / (per p x : Int))).toNat, ?_⟩
      have hneg : -(n : Int) / (per p x : Int) ≤ 0 := by
        refine Classical.byContradiction fun hc => ?_
        have h3 : (1 : Int) ≤ -(n : Int) / (per p x : Int) := by omega
        have h4 : (per p x : Int) * 1 ≤ (per p x : Int) * (-(n : Int) / (per p x : Int)) := Int.mul_le_mul_of_nonneg_left h3 (by omega)
        omega
      have h5 : ((per p x * (-(-(n : Int) / (per p x : Int))).toNat : Nat) : Int) = (per p x : Int) * (-(-(n : Int) / (per p x : Int))) := by
        rw [Int.natCast_mul, Int.toNat_of_nonneg (by omega)]
      have h6 : (per p x : Int) * (-(-(n : Int) / (per p x : Int))) = -((per p x : Int) * (-(n : Int) / (per p x : Int))) := Int.mul_neg ..
      omega
    have e1 : itr (at0 p) n (itr (at0 p) m x) = x := by
      rw [← itr_add, Nat.add_comm, hk, itr_fix h3]
    have hmx := itr_lt h hx' m
    have := back_itr h hmx n
    rw [e1] at this
    exact this
end PL

namespace DL
open PySem PySem.Spec PyProof.Rows L2 DX
def isInt : PyData → Bool
  | .int _ => true
  | .bool _ => true
  | _ => false
def isBool : PyData → Bool
  | .bool _ => true
  | _ => false
def isTup : PyData → Bool
  | .tuple _ => true
  | _ => false
def isStr : PyData → Bool
  | .str _ => true
  | _ => false
theorem isA_int (d : PyData) : isA (kd d) "int" = isInt d := by cases d <;> simp [isA, kd, isInt]
theorem isA_bool (d : PyData) : isA (kd d) "bool" = isBool d := by cases d <;> simp [isA, kd, isBool]
theorem isA_tup (d : PyData) : isA (kd d) "tuple" = isTup d := by cases d <;> simp [isA, kd, isTup]
theorem isA_str (d : PyData) : isA (kd d) "str" = isStr d := by cases d <;> simp [isA, kd, isStr]
theorem Dt.dg {M : Sto} {s : S} {d : PyData} (h : Dt M s d) : Dg M s d := by
  cases h with
  | d => exact .d _
  | q => exact .q _
  | l h1 h2 h3 => subst h3; exact .l h1 h2 (DgL.data _)
theorem Dt.items {M : Sto} {s : S} {ds : List PyData} (h : Dt M s (.tuple ds)) : Items s (ds.map S.d) := by
  cases h with
  | d => exact rfl
  | q => exact rfl
section
variable {c : Cs} {Γ Γ1 Γ2 : Gm} {M M' M1 M2 M3 W : Sto} {e a b o iter tg elt : Expr} {es : List Expr} {r x y z s : S} {rs : List S} {pos p p2 p3 apos : Pos} {i j : Int} {k : Nat} {f : Str} {N : Nd} {d : PyData} {scope : Scope}
theorem range_map_get {α β : Type} (ss : List α) (d0 : α) (f : α → β) : (List.range ss.length).map (fun k => f (ss.getD k d0)) = ss.map f := by
  refine List.ext_getElem (by simp) fun i h1 h2 => ?_
  have hi : i < ss.length := by simpa using h2
  simp [List.getD, hi]
/-- [elt for tg in items]: no test, the parts leaving the store as it is -/
theorem ex_lcA {G : Sto → Prop} {ss : List S} (f : S → S) (own : List (Str × Nat)) (hi : IX c Γ M tg iter ss.length G (fun i => ss.getD i (.d .none)) W) (hG : ∀ acc, G (W ++ [.lst acc])) (hn : ss.length < 1000000) (lo : loMs W.length W) (lv : ∀ s ∈ ss, loS W.length (f s))
    (hs : ∀ s ∈ ss, ∀ acc, ∃ Γ1, GW (cB c scope) (own.map (·.2)) (wipeG Γ (own.map (·.2))) (W ++ [.lst acc]) tg s Γ1 ∧ EX (cB c scope) Γ1 (W ++ [.lst acc]) elt (f s) (W ++ [.lst acc]))
    (ok : blkC c.N c.sc scope own = true := by kernel_rfl) (hf : ∀ env x, foldedSetIterable iter env x = pure x := by intro _ _; rfl) : EX c Γ M (.ListComp elt [⟨tg, iter, [], 0⟩] scope pos) (.p W.length) (W ++ [.lst (ss.map f)]) := by
  have mem : ∀ k, k < ss.length → ss.getD k (.d .none) ∈ ss := fun k hk => by
    simp only [List.getD, List.getElem?_eq_getElem hk, Option.getD_some]
    exact List.getElem_mem hk
  refine ex_to (ex_lcP own hi (fun _ => true) (fun k => f (ss.getD k (.d .none))) hG hn lo (fun k hk _ => lv _ (mem k hk)) (fun k hk acc => ?_) ok (by decide) hf) rfl ?_
  · obtain ⟨Γ1, h1, h2⟩ := hs _ (mem k hk) acc
    exact ⟨Γ1, h1, ei_nil, fun _ => h2⟩
  · rw [List.filter_eq_self.mpr (fun _ _ => rfl), range_map_get]
/-- the same with range(n) -/
theorem ex_lcR {n : Nat} {G : Sto → Prop} (f : Nat → S) (own : List (Str × Nat)) (hi : IX c Γ M tg iter n G (fun i => .d (.int (i : Nat))) W) (hG : ∀ acc, G (W ++ [.lst acc])) (hn : n < 1000000) (lo : loMs W.length W) (lv : ∀ k, k < n → loS W.length (f k))
    (hs : ∀ k, k < n → ∀ acc, ∃ Γ1, GW (cB c scope) (own.map (·.2)) (wipeG Γ (own.map (·.2))) (W ++ [.lst acc]) tg (.d (.int (k : Nat))) Γ1 ∧ EX (cB c scope) Γ1 (W ++ [.lst acc]) elt (f k) (W ++ [.lst acc]))
    (ok : blkC c.N c.sc scope own = true := by kernel_rfl) (hf : ∀ env x, foldedSetIterable iter env x = pure x := by intro _ _; rfl) : EX c Γ M (.ListComp elt [⟨tg, iter, [], 0⟩] scope pos) (.p W.length) (W ++ [.lst ((List.range n).map f)]) := by
  refine ex_to (ex_lcP own hi (fun _ => true) f hG hn lo (fun k hk _ => lv k hk) (fun k hk acc => ?_) ok (by decide) hf) rfl ?_
  · obtain ⟨Γ1, h1, h2⟩ := hs k hk acc
    exact ⟨Γ1, h1, ei_nil, fun _ => h2⟩
  · rw [List.filter_eq_self.mpr (fun _ _ => rfl)]
/-- a constant of the module -/
def GI (mg : Str → Option Value) (x : Str) (i : Int) : Prop := ∃ t, mg x = some (.int i t)
theorem ex_globI {x : Str} (h : GI c.mg x i) (hg : c.sc.names.lookup x = some .globalImplicit := by rfl) (hd : (x == ("__debug__" : Str)) = false := by decide) : EX c Γ M (.Name x pos) (.d (.int i)) M := by
  obtain ⟨t, e⟩ := h
  exact ex_glob (v := .int i) hg e ⟨t, rfl⟩ (fun _ _ => .d (.int i)) hd
theorem loMs_up {n : Nat} (h : loMs 0 M) : loMs n M := loMs_mono (Nat.zero_le _) h
theorem fin_d0 {x : PyData} (h : loMs 0 M) {r : PyData} (e : x = r) {T : Sto} : Fin M.length (.d x) (M ++ T) (.d r) M := by
  subst e
  exact fin_lo (by rw [List.length_append]; exact Nat.le_add_right _ _) (by simp) (loMs_up h) trivial
theorem fin_d00 {x : PyData} (h : loMs 0 M) {r : PyData} (e : x = r) : Fin M.length (.d x) M (.d r) M := by
  have := fin_d0 (T := []) h e
  rwa [List.append_nil] at this
end
end DL

namespace DL
open PySem PySem.Spec PyProof.Rows L2 DX
theorem inR_range {n k : Nat} (h : k < n) : inR (List.range n) k = some k := by
  unfold inR
  exact idxOf_nodup List.nodup_range (by rw [List.getElem?_range h])
theorem outR_range (n k : Nat) : outR (List.range n) n k = some k := by
  unfold outR
  rw [List.length_range]
  split
  · rename_i h
    rw [List.getElem?_range h]
  · congr 1
    omega
/-- the whole store is handed over -/
theorem proj_all {args : List S} {M Mc' : Sto} {r' : S} (ha : loL M.length args) (lo : loMs M.length M) (hl : M.length ≤ Mc'.length) (lo' : loMs Mc'.length Mc') (hr : loS Mc'.length r') : Proj (List.range M.length) args M args M r' Mc' r' Mc' where
  nd := List.nodup_range
  lt := fun k h => List.mem_range.mp h
  args := loL.ren (fun k h => inR_range h) ha
  mc := by rw [List.length_range]
  mi := fun i k m e em => by
    have hi : i < M.length := by
      have := (List.getElem?_eq_some_iff.mp e).1
      rwa [List.length_range] at this
    rw [List.getElem?_range hi] at e
    cases e
    exact ⟨m, em, loM.ren (fun k h => inR_range h) (lo.at m (List.mem_of_getElem? em))⟩
  len := hl
  len' := by rw [List.length_range]; omega
  r := loS.ren (fun k _ => outR_range _ k) hr
  old := fun k h hn => absurd (List.mem_range.mpr h) hn
  back := fun i m j e eo => by
    rw [outR_range] at eo
    cases eo
    exact ⟨m, e, loM.ren (fun k _ => outR_range _ k) (lo'.at m (List.mem_of_getElem? e))⟩
/-- the same, the store left as it is -/
theorem proj_same {args : List S} {M : Sto} {r' : S} (ha : loL M.length args) (lo : loMs 0 M) (hr : loS M.length r') : Proj (List.range M.length) args M args M r' M r' M := proj_all ha (loMs_up lo) (Nat.le_refl _) (loMs_up lo) hr
theorem Dt.lo {M : Sto} {s : S} {d : PyData} (h : Dt M s d) : loS M.length s := by
  cases h with
  | d => trivial
  | q => trivial
  | l h1 h2 h3 => exact (List.getElem?_eq_some_iff.mp h1).1
theorem loL1 {n : Nat} {s : S} (h : loS n s) : loL n [s] := ⟨h, trivial⟩
theorem loL2 {n : Nat} {s t : S} (h : loS n s) (g : loS n t) : loL n [s, t] := ⟨h, g, trivial⟩
theorem loMs_xd {M : Sto} {f : Str} {s : S} (lo : loMs 0 M) (h : loS M.length s) : loMs (M ++ [MO.xd [(f, s)]]).length (M ++ [.xd [(f, s)]]) := by
  rw [List.length_append]
  exact loMs_app (loMs_up lo) ⟨⟨loS_mono (Nat.le_add_right _ _) h, trivial⟩, trivial⟩
theorem finX_all {n k : Nat} {M : Sto} (hn : n ≤ M.length) (f : loMs M.length M) (hk : k < M.length) : FinX n k M k M := by
  obtain ⟨js, h1, h2⟩ := fin_all (r := .p k) hn f hk
  refine ⟨js, h1, ?_⟩
  cases h2 with
  | p h => exact h
theorem finX_xd {M : Sto} {f : Str} {s : S} (lo : loMs 0 M) (h : loS M.length s) : FinX M.length M.length (M ++ [.xd [(f, s)]]) M.length (M ++ [.xd [(f, s)]]) :=
  finX_all (by simp) (loMs_xd lo h) (by simp)
section
variable {c : Cs} {Γ : Gm} {M M1 M2 : Sto} {e : Expr} {r : S} {pos p pos2 : Pos} {N : Nd} {C : Addr} {x f msg pn : Str} {dfl : Bool}
/-- raise X(e) -/
theorem sx_raiseV (W : XM c.ms x C f msg pn dfl) (hp : ∀ X H0, c.px X H0 → Pf X H0) (T : XqC c.K C) (ty : PySem.W.typeIn c.K (.ref C) = some (.type "type")) (he : EX c Γ M e r M1) (hM : M.length ≤ M1.length) (lo : loMs M1.length M1) (hr : loS M1.length r) (hq : N.xc Γ C M1.length (M1 ++ [.xd [(f, r)]]))
    (hk : 2 ≤ c.k := by exact Nat.le_of_ble_eq_true rfl) (hg : c.sc.names.lookup x = some gI := by rfl) (hdb : (x == ("__debug__" : Str)) = false := by decide) (hs : One e := by intro _; rfl) :
    SX c Γ M (.Raise (some (.Call (.Name x p) [e] [] pos)) none pos2) N := by
  have hlen : (M1 ++ [MO.xd [(f, r)]]).length = M1.length + 1 := by simp
  refine sx_raise (msg := msg) (d := M1.length) (M2 := M1 ++ [.xd [(f, r)]]) hp T ty (ex_to (ex_mkx W he hk hg hdb hs) (by rw [hlen]) rfl) (by rw [hlen]; omega) ?_ (by rw [hlen]; omega) hq
  rw [hlen]
  exact loMs_app (loMs_mono (Nat.le_succ _) lo) ⟨⟨loS_mono (Nat.le_succ _) hr, trivial⟩, trivial⟩
end
end DL

namespace DL
open PySem PySem.Spec PyProof.Rows L2 DX PL
/-! ### tuples and lists of numbers -/
abbrev sN (p : List Nat) : List S := (dN p).map S.d
theorem ixN_nat {n i : Nat} (h : i < n) : L2.ixN n (i : Int) = some i := by
  unfold L2.ixN
  rw [if_pos (by omega), if_pos (by omega)]
  rfl
theorem ixN_last {n i : Nat} (h : 1 ≤ i) (h2 : i ≤ n) : L2.ixN n (-(i : Int)) = some (n - i) := by
  unfold L2.ixN
  rw [if_neg (by omega), if_pos (by omega)]
  congr 1
  omega
theorem atI_nat {α : Type} {ss : List α} {n : Nat} {s : α} (h : ss[n]? = some s) : L2.atI ss (n : Int) = some s := by
  unfold L2.atI
  rw [ixN_nat (List.getElem?_eq_some_iff.mp h).1]
  exact h
theorem sN_len (p : List Nat) : (sN p).length = p.length := by simp
theorem sN_get {p : List Nat} {k x : Nat} (h : p[k]? = some x) : (sN p)[k]? = some (.d (.int x)) := by
  rw [List.getElem?_map, List.getElem?_map, h]
  rfl
theorem sN_at {p : List Nat} {k : Nat} (h : k < p.length) : L2.atI (sN p) (k : Int) = some (.d (.int (at0 p k))) := atI_nat (sN_get (at0_get h))
theorem sN_set (p : List Nat) (n y : Nat) : (sN p).set n (.d (.int y)) = sN (p.set n y) := by
  rw [sN, sN, dN, dN, List.map_set, List.map_set]
theorem loL_data (n : Nat) : ∀ ds : List PyData, loL n (ds.map S.d)
  | [] => trivial
  | _ :: ds => ⟨trivial, loL_data n ds⟩
theorem sN_lo (n : Nat) (p : List Nat) : loL n (sN p) := loL_data n _
theorem dN_range (n : Nat) : rgD n = dN (List.range n) := rfl
theorem rep1 {α : Type} (x : α) : ∀ n, (List.replicate n [x]).flatten = List.replicate n x
  | 0 => rfl
  | n + 1 => by rw [List.replicate_succ, List.flatten_cons, rep1 x n, List.replicate_succ]; rfl
theorem sN_rep (n x : Nat) : List.replicate n (S.d (.int x)) = sN (List.replicate n x) := by simp [sN]
theorem sN_map {f : Nat → Nat} {g : S → S} (h : ∀ x, g (.d (.int (x : Nat))) = .d (.int (f x : Nat))) (p : List Nat) : (sN p).map g = sN (p.map f) := by
  rw [sN, sN, dN, dN, List.map_map, List.map_map, List.map_map, List.map_map]
  refine List.map_congr_left fun x _ => ?_
  exact h x
section
variable {c : Cs} {Γ : Gm} {M M1 : Sto} {e : Expr} {s : S} {ds : List PyData}
theorem ex_dt (h : EX c Γ M e s M1) (hd : Dt M1 s (.tuple ds)) : EX c Γ M e (.d (.tuple ds)) M1 := by
  cases hd with
  | d => exact h
  | q => exact ex_q h
end
def whileBody : Stmt → List Stmt
  | .While _ b _ _ => b
  | _ => []
def forBody : Stmt → List Stmt
  | .For _ _ b _ _ => b
  | _ => []
def ifBody : Stmt → List Stmt
  | .If _ b _ _ => b
  | _ => []
/-! ### powers -/
def pw (g : Nat → Nat) (n k : Nat) : List Nat := (List.range n).map (itr g k)
theorem pw_len (g : Nat → Nat) (n k : Nat) : (pw g n k).length = n := by simp [pw]
theorem pw_at {g : Nat → Nat} {n k x : Nat} (h : x < n) : at0 (pw g n k) x = itr g k x := at0_range h
theorem pw_then {g : Nat → Nat} {n : Nat} (hg : ∀ k x, x < n → itr g k x < n) (a b : Nat) : thenL (pw g n a) (pw g n b) = pw g n (a + b) := by
  refine ext0 (by simp [thenL, pw]) fun i hi => ?_
  have hi' : i < n := by simpa [thenL, pw] using hi
  rw [thenL, at0_map (by rw [pw_len]; exact hi'), pw_at hi', pw_at (hg a i hi'), pw_at hi', itr_add]
theorem pw_mem {g : Nat → Nat} {n : Nat} (hg : ∀ k x, x < n → itr g k x < n) (a : Nat) : ∀ x ∈ pw g n a, x < n := fun x hx => by
  obtain ⟨y, hy, rfl⟩ := List.mem_map.mp hx
  exact hg a y (List.mem_range.mp hy)
theorem pw_zero (g : Nat → Nat) (n : Nat) : pw g n 0 = List.range n := by
  unfold pw
  rw [show itr g 0 = id from rfl, List.map_id]
theorem pw_one (p : List Nat) : pw (at0 p) p.length 1 = p := (as_range p).symm
end DL

namespace DL
open PySem PySem.Spec PyProof.Rows L2 DX PL
/-! ### small data: what == and repr ask -/
structure Sm (d : PyData) (k w : Nat) : Prop where
  lay : d.canLay0 = true
  dep : d.depth ≤ k
  wt : d.weight ≤ w
  sh : d.intsShort 13 = true
  sw : d.showable = true
structure SmL (ds : List PyData) (k w : Nat) : Prop where
  lay : PyData.canLayAll0 ds = true
  dep : PyData.depthAll ds ≤ k
  wt : PyData.weightAll ds ≤ w
  sh : PyData.intsShortAll 13 ds = true
  sw : PyData.showableAll ds = true
theorem Sm.mono {d : PyData} {k w k' w' : Nat} (h : Sm d k w) (hk : k ≤ k') (hw : w ≤ w') : Sm d k' w' := ⟨h.lay, Nat.le_trans h.dep hk, Nat.le_trans h.wt hw, h.sh, h.sw⟩
theorem SmL.mono {d : List PyData} {k w k' w' : Nat} (h : SmL d k w) (hk : k ≤ k') (hw : w ≤ w') : SmL d k' w' := ⟨h.lay, Nat.le_trans h.dep hk, Nat.le_trans h.wt hw, h.sh, h.sw⟩
theorem Sm.none : Sm .none 0 0 := ⟨rfl, Nat.le_refl _, Nat.le_refl _, rfl, rfl⟩
theorem Sm.bool (b : Bool) : Sm (.bool b) 0 0 := ⟨rfl, Nat.le_refl _, Nat.le_refl _, rfl, rfl⟩
theorem log2_le {n k : Nat} (h : n < 2 ^ k) (hk : 0 < k) : n.log2 + 1 ≤ k := by
  rcases Nat.eq_zero_or_pos n with z | z
  · subst z
    simp
    omega
  · have := (Nat.log2_lt (by omega : n ≠ 0)).mpr h
    omega
theorem Sm.int {i : Int} (h : i.natAbs < 10 ^ 12) : Sm (.int i) 0 40 := by
  have hl : i.natAbs.log2 + 1 ≤ 40 := log2_le (Nat.lt_of_lt_of_le h (by decide)) (by decide)
  refine ⟨rfl, Nat.le_refl _, ?_, ?_, ?_⟩
  · simp only [PyData.weight]
    split <;> omega
  · simp only [PyData.intsShort, decide_eq_true_eq]
    exact PyData.shown_int_le h
  · simp only [PyData.showable, decide_eq_true_eq]
    omega
theorem Sm.str {x : Str} {w : Nat} (h : PyData.strOk x = true) (hw : x.cps.size ≤ w) : Sm (.str x) 0 w := ⟨by simpa [PyData.canLay0] using h, by simp [PyData.depth], by simpa [PyData.weight] using hw, by simp [PyData.intsShort], by simp [PyData.showable]⟩
theorem SmL.nil : SmL [] 0 0 := ⟨rfl, Nat.le_refl _, Nat.le_refl _, rfl, rfl⟩
theorem SmL.cons {d : PyData} {ds : List PyData} {k w w' : Nat} (h : Sm d k w) (g : SmL ds k w') : SmL (d :: ds) k (w + 1 + w') := by
  refine ⟨?_, ?_, ?_, ?_, ?_⟩
  · simp only [PyData.canLayAll0, h.lay, g.lay, Bool.and_self]
  · simp only [PyData.depthAll]
    exact Nat.max_le.mpr ⟨h.dep, g.dep⟩
  · simp only [PyData.weightAll]
    have := h.wt
    have := g.wt
    omega
  · simp only [PyData.intsShortAll, h.sh, g.sh, Bool.and_self]
  · simp only [PyData.showableAll, h.sw, g.sw, Bool.and_self]
theorem SmL.list {ds : List PyData} {k w : Nat} (h : SmL ds k w) : Sm (.list ds) (k + 1) w := ⟨by simpa [PyData.canLay0] using h.lay, by simp only [PyData.depth]; exact Nat.succ_le_succ h.dep, by simpa [PyData.weight] using h.wt, by simpa [PyData.intsShort] using h.sh, by simpa [PyData.showable] using h.sw⟩
theorem SmL.tuple {ds : List PyData} {k w : Nat} (h : SmL ds k w) : Sm (.tuple ds) (k + 1) w := ⟨by simpa [PyData.canLay0] using h.lay, by simp only [PyData.depth]; exact Nat.succ_le_succ h.dep, by simpa [PyData.weight] using h.wt, by simpa [PyData.intsShort] using h.sh, by simpa [PyData.showable] using h.sw⟩
theorem SmL.all {k w : Nat} : ∀ {ds : List PyData}, (∀ d ∈ ds, Sm d k w) → SmL ds k (ds.length * (w + 1))
  | [], _ => ⟨rfl, Nat.zero_le _, Nat.zero_le _, rfl, rfl⟩
  | d :: ds, h => by
    have := SmL.cons (h d List.mem_cons_self) (SmL.all fun x hx => h x (List.mem_cons_of_mem _ hx))
    exact this.mono (Nat.le_refl _) (by rw [List.length_cons, Nat.succ_mul]; omega)
theorem SmL.app {ds es : List PyData} {k w w' : Nat} (h : SmL ds k w) (g : SmL es k w') : SmL (ds ++ es) k (w + w') := by
  induction ds generalizing w with
  | nil => exact g.mono (Nat.le_refl _) (by omega)
  | cons d ds ih =>
    have l1 : d.canLay0 = true ∧ PyData.canLayAll0 ds = true := by simpa only [PyData.canLayAll0, Bool.and_eq_true] using h.lay
    have l2 := h.dep
    simp only [PyData.depthAll] at l2
    have l3 := h.wt
    simp only [PyData.weightAll] at l3
    have l4 : d.intsShort 13 = true ∧ PyData.intsShortAll 13 ds = true := by simpa only [PyData.intsShortAll, Bool.and_eq_true] using h.sh
    have l5 : d.showable = true ∧ PyData.showableAll ds = true := by simpa only [PyData.showableAll, Bool.and_eq_true] using h.sw
    have i := ih (w := w - d.weight - 1) ⟨l1.2, by omega, by omega, l4.2, l5.2⟩
    exact (SmL.cons (d := d) (w := d.weight) ⟨l1.1, by omega, Nat.le_refl _, l4.1, l5.1⟩ i).mono (Nat.le_refl _) (by omega)
theorem Sm.shaped {d : PyData} {k w : Nat} (h : Sm d k w) (hk : k ≤ 64) : SeqAt.shaped d = true := by
  simp only [SeqAt.shaped, h.lay, Bool.true_and, decide_eq_true_eq]
  exact Nat.le_trans h.dep hk
theorem Sm.noDict {d : PyData} {k w : Nat} (h : Sm d k w) : d.hasDict = false := PyData.hasDict_of_canLay d h.lay
theorem Sm.fits {d : PyData} {k w : Nat} (h : Sm d k w) (hk : k ≤ 64) (hw : w ≤ 1048576) : d.shown.length ≤ sizeLine :=
  PyData.shown_fits_of_layable0 (B := 13) (by decide) (Nat.le_refl _) (by
    simp only [PyData.layable0, h.lay, Bool.true_and, Bool.and_eq_true, decide_eq_true_eq]
    exact ⟨Nat.le_trans h.dep hk, Nat.le_trans h.wt (Nat.le_trans hw (by decide))⟩) h.sh
theorem smL_dN {p : List Nat} (h : ∀ x ∈ p, x < 10 ^ 12) : SmL (dN p) 0 (p.length * 41) := by
  have := SmL.all (ds := dN p) (k := 0) (w := 40) fun d hd => by
    obtain ⟨x, hx, rfl⟩ := List.mem_map.mp hd
    exact Sm.int (by have := h x hx; omega)
  rwa [List.length_map] at this
theorem sm_tN {p : List Nat} (h : ∀ x ∈ p, x < 10 ^ 12) : Sm (tN p) 1 (p.length * 41) := (smL_dN h).tuple
theorem smL_z {ns : List Int} (h : ∀ x ∈ ns, x.natAbs < 10 ^ 12) : SmL (ns.map PyData.int) 0 (ns.length * 41) := by
  have := SmL.all (ds := ns.map PyData.int) (k := 0) (w := 40) fun d hd => by
    obtain ⟨x, hx, rfl⟩ := List.mem_map.mp hd
    exact Sm.int (h x hx)
  rwa [List.length_map] at this
/-! ### == of such -/
theorem eqvAll_ints : ∀ xs ys : List Int, PyData.eqvAll (xs.map PyData.int) (ys.map PyData.int) = decide (xs = ys)
  | [], [] => by simp [PyData.eqvAll]
  | [], _ :: _ => by simp [PyData.eqvAll]
  | _ :: _, [] => by simp [PyData.eqvAll]
  | x :: xs, y :: ys => by
    simp only [List.map_cons, PyData.eqvAll, PyData.eqv, eqvAll_ints xs ys]
    by_cases h1 : x = y <;> by_cases h2 : xs = ys <;> simp [h1, h2]
theorem eqvAll_dN (p q : List Nat) : PyData.eqvAll (dN p) (dN q) = decide (p = q) := by
  rw [dN_z, dN_z, eqvAll_ints]
  refine decide_eq_decide.mpr ⟨fun h => ?_, fun h => by rw [h]⟩
  exact (List.map_inj_right (f := fun n : Nat => (n : Int)) (fun a b h => Int.ofNat.inj h)).mp h
theorem eqv_tN (p q : List Nat) : PyData.eqv (tN p) (tN q) = decide (p = q) := by
  simp only [tN, PyData.eqv]
  exact eqvAll_dN p q
theorem eqv_lN (p q : List Nat) : PyData.eqv (.list (dN p)) (.list (dN q)) = decide (p = q) := by
  simp only [PyData.eqv]
  exact eqvAll_dN p q
section
variable {c : Cs} {M : Sto} {x y : S}
theorem os_eqT {p q : List Nat} (hx : Dg M x (tN p)) (hy : Dg M y (tN q)) (h1 : ∀ x ∈ p, x < 10 ^ 12) (h2 : ∀ x ∈ q, x < 10 ^ 12) : OS c (compareOp .Eq) x y M (.d (.bool (decide (p = q)))) M :=
  (os_eqG hx hy ((sm_tN h1).shaped (by decide)) ((sm_tN h2).shaped (by decide))).to (by rw [eqv_tN]) rfl
theorem os_neT {p q : List Nat} (hx : Dg M x (tN p)) (hy : Dg M y (tN q)) (h1 : ∀ x ∈ p, x < 10 ^ 12) (h2 : ∀ x ∈ q, x < 10 ^ 12) : OS c (compareOp .NotEq) x y M (.d (.bool (!decide (p = q)))) M :=
  (os_neG hx hy ((sm_tN h1).shaped (by decide)) ((sm_tN h2).shaped (by decide))).to (by rw [eqv_tN]) rfl
theorem os_eqLN {p q : List Nat} (hx : Dg M x (.list (dN p))) (hy : Dg M y (.list (dN q))) (h1 : ∀ x ∈ p, x < 10 ^ 12) (h2 : ∀ x ∈ q, x < 10 ^ 12) : OS c (compareOp .Eq) x y M (.d (.bool (decide (p = q)))) M :=
  (os_eqG hx hy ((smL_dN h1).list.shaped (by decide)) ((smL_dN h2).list.shaped (by decide))).to (by rw [eqv_lN]) rfl
theorem os_neLN {p q : List Nat} (hx : Dg M x (.list (dN p))) (hy : Dg M y (.list (dN q))) (h1 : ∀ x ∈ p, x < 10 ^ 12) (h2 : ∀ x ∈ q, x < 10 ^ 12) : OS c (compareOp .NotEq) x y M (.d (.bool (!decide (p = q)))) M :=
  (os_neG hx hy ((smL_dN h1).list.shaped (by decide)) ((smL_dN h2).list.shaped (by decide))).to (by rw [eqv_lN]) rfl
end
end DL

namespace DL
open PySem PySem.Spec PyProof.Rows L2 DX PL
theorem filter_map_get {α β : Type} (d0 : α) (g : α → Bool) (f : α → β) (ss : List α) : ((List.range ss.length).filter (fun k => g (ss.getD k d0))).map (fun k => f (ss.getD k d0)) = (ss.filter g).map f := by
  have e : ss = (List.range ss.length).map (fun k => ss.getD k d0) := by
    have := range_map_get ss d0 id
    simpa using this.symm
  conv => rhs; rw [e, List.filter_map]
  rw [List.map_map]
  rfl
section
variable {c : Cs} {Γ Γ1 Γ2 : Gm} {M M' M1 M2 M3 W : Sto} {e a b o iter tg elt t : Expr} {es : List Expr} {r x y z s : S} {rs : List S} {pos p p2 p3 apos : Pos} {i j : Int} {k : Nat} {N : Nd} {d : PyData} {scope : Scope}
/-- [elt for tg in items if t], the parts leaving the store as it is -/
theorem ex_lcF {G : Sto → Prop} {ss : List S} (g : S → Bool) (f : S → S) (own : List (Str × Nat)) (hi : IX c Γ M tg iter ss.length G (fun i => ss.getD i (.d .none)) W) (hG : ∀ acc, G (W ++ [.lst acc])) (hn : ss.length < 1000000) (lo : loMs W.length W) (lv : ∀ s ∈ ss, g s = true → loS W.length (f s))
    (hs : ∀ s ∈ ss, ∀ acc, ∃ Γ1, GW (cB c scope) (own.map (·.2)) (wipeG Γ (own.map (·.2))) (W ++ [.lst acc]) tg s Γ1 ∧ ET (cB c scope) Γ1 (W ++ [.lst acc]) t (g s) (W ++ [.lst acc]) ∧ (g s = true → EX (cB c scope) Γ1 (W ++ [.lst acc]) elt (f s) (W ++ [.lst acc])))
    (ok : blkC c.N c.sc scope own = true := by kernel_rfl) (hf : ∀ env x, foldedSetIterable iter env x = pure x := by intro _ _; rfl) : EX c Γ M (.ListComp elt [⟨tg, iter, [t], 0⟩] scope pos) (.p W.length) (W ++ [.lst ((ss.filter g).map f)]) := by
  have mem : ∀ k, k < ss.length → ss.getD k (.d .none) ∈ ss := fun k hk => by
    simp only [List.getD, List.getElem?_eq_getElem hk, Option.getD_some]
    exact List.getElem_mem hk
  refine ex_to (ex_lcP own hi (fun k => g (ss.getD k (.d .none))) (fun k => f (ss.getD k (.d .none))) hG hn lo (fun k hk q => lv _ (mem k hk) q) (fun k hk acc => ?_) ok (by simp) hf) rfl ?_
  · obtain ⟨Γ1, h1, h2, h3⟩ := hs _ (mem k hk) acc
    exact ⟨Γ1, h1, ei_one h2, h3⟩
  · rw [filter_map_get]
end
theorem sm_items {d : PyData} {ds : List PyData} {k w : Nat} (h : SmL ds k w) (hm : d ∈ ds) : Sm d k w := by
  induction ds generalizing w with
  | nil => cases hm
  | cons x xs ih =>
    have l1 : x.canLay0 = true ∧ PyData.canLayAll0 xs = true := by simpa only [PyData.canLayAll0, Bool.and_eq_true] using h.lay
    have l2 := h.dep
    simp only [PyData.depthAll] at l2
    have l3 := h.wt
    simp only [PyData.weightAll] at l3
    have l4 : x.intsShort 13 = true ∧ PyData.intsShortAll 13 xs = true := by simpa only [PyData.intsShortAll, Bool.and_eq_true] using h.sh
    have l5 : x.showable = true ∧ PyData.showableAll xs = true := by simpa only [PyData.showableAll, Bool.and_eq_true] using h.sw
    rcases List.mem_cons.mp hm with rfl | hm
    · exact ⟨l1.1, by omega, by omega, l4.1, l5.1⟩
    · exact ih (w := w) ⟨l1.2, by omega, by omega, l4.2, l5.2⟩ hm
theorem Sm.untuple {ds : List PyData} {k w : Nat} (h : Sm (.tuple ds) k w) : SmL ds k w := by
  have h2 := h.dep
  simp only [PyData.depth] at h2
  exact ⟨by simpa [PyData.canLay0] using h.lay, by omega, by simpa [PyData.weight] using h.wt, by simpa [PyData.intsShort] using h.sh, by simpa [PyData.showable] using h.sw⟩
theorem eqvAll_nil (ds : List PyData) : PyData.eqvAll ds [] = decide (ds = []) := by cases ds <;> simp [PyData.eqvAll]
theorem eqv_nil (ds : List PyData) : PyData.eqv (.list ds) (.list []) = decide (ds = []) := by
  simp only [PyData.eqv]
  exact eqvAll_nil ds
/-- the first k objects stay -/
theorem fin_pre {n k : Nat} {r : S} {M M' : Sto} (hn : n ≤ k) (hk : k ≤ M.length) (e : M.take k = M') (f : loMs k M') (hr : loS k r) : Fin n r M r M' := by
  have hl : M'.length = k := by rw [← e, List.length_take]; omega
  have key : ∀ j, j < k → keepR n (List.range' n (k - n)) j = some j := fun j h => by
    unfold keepR
    by_cases q : j < n
    · rw [if_pos q]
    · rw [if_neg q]
      have e : (List.range' n (k - n))[j - n]? = some j := by
        rw [List.getElem?_range' (by omega)]
        congr 1
        omega
      rw [idxOf_nodup (List.nodup_range' ..) e]
      show some (n + (j - n)) = some j
      congr 1
      omega
  have at' : ∀ j m, j < k → M[j]? = some m → M'[j]? = some m := fun j m h q => by rw [← e, List.getElem?_take, if_pos h, q]
  refine ⟨List.range' n (k - n), ⟨by rw [List.length_range', hl]; omega, List.nodup_range' .., fun j h => ?_, Nat.le_trans hn hk, fun j m h q => ⟨m, at' j m (by omega) q, loM.ren key (f.at m (List.mem_of_getElem? (at' j m (by omega) q)))⟩, fun i j m h q => ?_⟩, loS.ren key hr⟩
  · rw [List.mem_range'] at h
    obtain ⟨i, h1, h2⟩ := h
    omega
  · have hi : i < k - n := by
      have := (List.getElem?_eq_some_iff.mp h).1
      rwa [List.length_range'] at this
    rw [List.getElem?_range' hi] at h
    have : n + i = j := by
      have := Option.some.inj h
      omega
    rw [this]
    exact ⟨m, at' j m (by omega) q, loM.ren key (f.at m (List.mem_of_getElem? (at' j m (by omega) q)))⟩
end DL

namespace DL
open PySem PySem.Spec PyProof.Rows L2 DX PL
section
variable {c : Cs} {Γ : Gm} {M M' M1 : Sto} {es : List Expr} {rs : List S} {pos : Pos} {x y : Str}
theorem os_eqStr : OS c (compareOp .Eq) (.d (.str x)) (.d (.str y)) M (.d (.bool (decide (x = y)))) M :=
  os_val (fun X _ => op_eq) fun H as u v Q sx sy k => by
    cases sv_str sx
    cases sv_str sy
    refine ⟨rfl, ?_⟩
    rw [show decide (V.str x = V.str y) = decide (x = y) from decide_eq_decide.mpr (by rw [V.str.injEq])]
    exact k _ (.d (.bl _))
theorem os_neStr : OS c (compareOp .NotEq) (.d (.str x)) (.d (.str y)) M (.d (.bool (!decide (x = y)))) M :=
  os_val (fun X _ => op_ne) fun H as u v Q sx sy k => by
    cases sv_str sx
    cases sv_str sy
    refine ⟨rfl, ?_⟩
    rw [show decide (V.str x = V.str y) = decide (x = y) from decide_eq_decide.mpr (by rw [V.str.injEq])]
    exact k _ (.d (.bl _))
/-- a tuple told as the tuple of its parts -/
theorem ex_tupT {k0 : Nat} (h : EA c Γ M es rs M1) (hl : rs.length ≤ 1000) : EX c Γ M (.Tuple es k0 pos) (.t rs) M1 := by
  constructor
  intro X H0 as0 o as σ H Q D k
  refine tE_of (pe_tup (pA X es)) ?_
  refine h.run X H0 as0 o as σ H _ D fun us as1 H1 l1 D1 s1 => ⟨?_, fun p hp => ?_⟩
  · rw [← s1.length]
    exact Nat.le_trans hl (by decide)
  · have k1 : Same H1 (upd H1 p (.tup us)) := Same.new hp
    exact k _ as1 _ ⟨l1.pre, l1.tk.trans (Same.tk k1)⟩ (D1.grow k1) (.t (.inl upd_same) (s1.le (.h (Same.tk k1))))
end
/-- no objects are handed over -/
theorem proj_0 {rs : List S} {M : Sto} {r : S} (ha : loL 0 rs) (hr : loS 0 r) : Proj [] rs M rs [] r [] r M where
  nd := List.nodup_nil
  lt := fun _ h => by cases h
  args := loL.ren (fun k h => absurd h (Nat.not_lt_zero _)) ha
  mc := rfl
  mi := fun i k m e => by simp at e
  len := Nat.le_refl _
  len' := by simp
  r := loS.ren (fun k h => absurd h (Nat.not_lt_zero _)) hr
  old := fun _ _ _ => rfl
  back := fun i m j e => by simp at e
theorem proj_0x {rs : List S} {M : Sto} {f : Str} {s : S} (ha : loL 0 rs) (hs : loS 0 s) : Proj [] rs M rs [] (.p 0) [.xd [(f, s)]] (.p M.length) (M ++ [.xd [(f, s)]]) where
  nd := List.nodup_nil
  lt := fun _ h => by cases h
  args := loL.ren (fun k h => absurd h (Nat.not_lt_zero _)) ha
  mc := rfl
  mi := fun i k m e => by simp at e
  len := Nat.zero_le _
  len' := by simp
  r := .p (by simp [outR])
  old := fun k h _ => by rw [List.getElem?_append_left h]
  back := fun i m j e eo => by
    match i with
    | 0 =>
      simp only [List.getElem?_cons_zero, Option.some.injEq] at e
      subst e
      simp only [outR, List.length_nil, Nat.lt_irrefl, if_false, Nat.sub_zero, Nat.add_zero, Option.some.injEq] at eo
      subst eo
      exact ⟨.xd [(f, s)], by simp, .xd (.cons ⟨rfl, loS.ren (fun k h => absurd h (Nat.not_lt_zero _)) hs⟩ .nil)⟩
    | i + 1 => simp at e
theorem inR1 (k : Nat) : inR [k] k = some 0 := by simp [inR, List.idxOf?_cons]
theorem outR1 (k n : Nat) : outR [k] n 0 = some k := rfl
theorem outR1' (k n i : Nat) : outR [k] n (i + 1) = some (n + i) := by
  unfold outR
  rw [if_neg (by simp)]
  simp
/-- one object is handed over, the result has no pointers -/
theorem proj_1 {k : Nat} {m m' : MO} {rs args : List S} {M : Sto} {r : S} (hk : M[k]? = some m) (hm : loM 0 m) (hm' : loM 0 m') (ha : Rens (inR [k]) rs args) (hr : loS 0 r) : Proj [k] rs M args [m] r [m'] r (M.set k m') where
  nd := by simp
  lt := fun j hj => by
    simp at hj
    subst hj
    exact (List.getElem?_eq_some_iff.mp hk).1
  args := ha
  mc := rfl
  mi := fun i j mm e em => by
    match i with
    | 0 =>
      simp at e
      subst e
      rw [hk] at em
      cases em
      exact ⟨_, rfl, loM.ren (fun k h => absurd h (Nat.not_lt_zero _)) hm⟩
    | i + 1 => simp at e
  len := Nat.le_refl _
  len' := by simp
  r := loS.ren (fun k h => absurd h (Nat.not_lt_zero _)) hr
  old := fun j h hj => by
    simp at hj
    rw [List.getElem?_set_ne (Ne.symm hj)]
  back := fun i mm j e eo => by
    match i with
    | 0 =>
      rw [outR1] at eo
      cases eo
      cases e
      exact ⟨_, List.getElem?_set_self (List.getElem?_eq_some_iff.mp hk).1, loM.ren (fun k h => absurd h (Nat.not_lt_zero _)) hm'⟩
    | i + 1 => simp at e
theorem set_same {M : Sto} {k : Nat} {m : MO} (hk : M[k]? = some m) : M.set k m = M := by
  refine List.ext_getElem? fun i => ?_
  by_cases h : k = i
  · subst h
    rw [List.getElem?_set_self (List.getElem?_eq_some_iff.mp hk).1, hk]
  · rw [List.getElem?_set_ne h]
theorem proj_1s {k : Nat} {m : MO} {rs args : List S} {M : Sto} {r : S} (hk : M[k]? = some m) (hm : loM 0 m) (ha : Rens (inR [k]) rs args) (hr : loS 0 r) : Proj [k] rs M args [m] r [m] r M := by
  have := proj_1 hk hm hm ha hr
  rwa [set_same hk] at this
/-- one object is handed over and stays, a new one comes back -/
theorem proj_1n {k : Nat} {m m' n n' : MO} {rs args : List S} {M : Sto} {r r' : S} (hk : M[k]? = some m) (hm : loM 0 m) (hm' : loM 0 m') (ha : Rens (inR [k]) rs args) (hr : Ren (outR [k] M.length) r' r) (hn : RenM (outR [k] M.length) n' n) : Proj [k] rs M args [m] r' [m', n'] r (M.set k m' ++ [n]) where
  nd := by simp
  lt := fun j hj => by
    simp at hj
    subst hj
    exact (List.getElem?_eq_some_iff.mp hk).1
  args := ha
  mc := rfl
  mi := fun i j mm e em => by
    match i with
    | 0 =>
      simp at e
      subst e
      rw [hk] at em
      cases em
      exact ⟨_, rfl, loM.ren (fun k h => absurd h (Nat.not_lt_zero _)) hm⟩
    | i + 1 => simp at e
  len := Nat.le_of_ble_eq_true rfl
  len' := by simp
  r := hr
  old := fun j h hj => by
    simp at hj
    rw [List.getElem?_append_left (by simpa using h), List.getElem?_set_ne (Ne.symm hj)]
  back := fun i mm j e eo => by
    have hl := (List.getElem?_eq_some_iff.mp hk).1
    match i with
    | 0 =>
      rw [outR1] at eo
      cases eo
      cases e
      exact ⟨_, by rw [List.getElem?_append_left (by simpa using hl), List.getElem?_set_self hl], loM.ren (fun k h => absurd h (Nat.not_lt_zero _)) hm'⟩
    | 1 =>
      rw [outR1'] at eo
      cases eo
      cases e
      exact ⟨n, by simp, hn⟩
    | i + 2 => simp at e
/-- one object is handed over and stays, an exception with its dict comes back -/
theorem proj_1x {k : Nat} {m : MO} {rs args : List S} {M : Sto} {f : Str} {s s' : S} (hk : M[k]? = some m) (hm : loM 0 m) (ha : Rens (inR [k]) rs args) (hs : Ren (outR [k] M.length) s' s) : Proj [k] rs M args [m] (.p 1) [m, .xd [(f, s')]] (.p M.length) (M ++ [.xd [(f, s)]]) := by
  have := proj_1n (n := .xd [(f, s)]) (n' := .xd [(f, s')]) (r' := .p 1) (r := .p M.length) hk hm hm ha (.p (outR1' k M.length 0)) (.xd (.cons ⟨rfl, hs⟩ .nil))
  rwa [set_same hk] at this
/-! ### a law whose body makes lambdas -/
def pxL (T : Tb) : Cx → Hp → Prop := fun X _ => ∃ cc P, LamX.TabB X.base X.mg cc P ∧ X.env.code = .ref cc ∧ (P, X.env.qual ++ "<lambda>") ∈ T ∧ ∀ p ∈ T, p.1 = P → p.2 = X.env.qual ++ "<lambda>"
abbrev Ms.csW (m : Ms) (N : List Str) (sc : Scope) (k : Nat) (ent : Hp → List Addr → Prop) : Cs := ⟨m.P, m.w, m.K, m.T, m.mg, m.base, N, sc, k, fun _ => true, ent, pxL m.T⟩
theorem lam_csW {m : Ms} {N : List Str} {sc : Scope} {k : Nat} {ent : Hp → List Addr → Prop} : ∀ X H0, (m.csW N sc k ent).px X H0 → LamF (m.csW N sc k ent) X := fun X _ h => ⟨h⟩
theorem law_ofL {m : Ms} {st : Stmt} {f cc P : Addr} {fd : FuncData} {N : List Str} {k : Nat} (F : Fun m.K "law" "law" st f fd) (S : FnScope N ["script"] (defScope st)) (hl : 1 ≤ N.length)
    (hcd : fd.code = .ref cc) (hTb : LamX.TabB m.base m.mg cc P) (hT : m.T = [(P, ("law" : Str) ++ (".<locals>." : Str) ++ "<lambda>")])
    (body : ∀ (a : Addr) (ns : List Int), ns.length ≤ 63 → (∀ z ∈ ns, Builtin.Int.intBits z ≤ 1048576) → BX (m.csW N (defScope st) k (entS m.K a ns)) (some (.v (.ref a)) :: List.replicate (N.length - 1) none) [] (defBody st) { nx := fun _ _ => False, rt := fun r _ => r = .d (.bool true) }) :
    FnG m.P m.w m.K m.mg m.base CX0 (k + 1) f fd ["script"] (spLaw m.K m.T) := by
  refine fun_okG F S (fun vs H Q E h => ?_) (fun cdv A outer s H vs Q E hcv hr hgd h => ?_)
  · obtain ⟨a, ns, rfl, _⟩ := h
    rfl
  · obtain ⟨a, ns, rfl, hS, hTT, h63, hb, q⟩ := h
    refine ⟨_, (pB (cxOf CX0 m.P m.w m.K m.mg m.base N "law" (defScope st) f cdv A outer s H E).nox (defBody st)).nox, ?_⟩
    have hcdv : cdv = .ref cc := by
      obtain ⟨oc, od, osl, lk, e⟩ := hcv
      rw [← e, hcd]
    have o : OkE (m.csW N (defScope st) k (entS m.K a ns)) (cxOf CX0 m.P m.w m.K m.mg m.base N "law" (defScope st) f cdv A outer s H E).nox H [] := ⟨⟨rfl, rfl, rfl, rfl, rfl, rfl, rfl, rfl, hr, hgd, S.nd, S.kind, own_never, fun _ _ => rfl⟩, ⟨rfl, hS⟩, by
      refine ⟨cc, P, hTb, hcdv, ?_, fun p hp _ => ?_⟩
      · rw [hT]
        exact List.mem_singleton.mpr rfl
      · rw [hT] at hp
        cases List.mem_singleton.mp hp
        rfl⟩
    have D0 : DenM m.K m.T H [] [] [] H := ⟨List.nodup_nil, rfl, ⟨[], rfl, fun _ h => absurd h List.not_mem_nil⟩, Tk.refl _, fun _ _ h _ _ => h, fun a ps e => ⟨#[], by rw [Array.append_empty]; exact e⟩, hTT, fun k m a e => by simp at e, fun _ h => absurd h List.not_mem_nil, fun k φ e => by simp at e⟩
    refine (body a ns h63 hb).run _ H [] o [] (L2.start N [.ref a]) H _ ⟨D0, ?_, fun i t ht => ?_⟩ ⟨fun _ _ _ _ _ h => h.elim, fun r2 M2 as2 v H2 h l d s => ?_, fun _ _ _ _ _ h => h.elim, fun _ _ _ _ _ h => h.elim, ⟨_, LamX.takes0, fun _ _ _ _ _ _ _ _ h => h.elim⟩⟩
    · unfold L2.start
      simp
    · cases i with
      | zero =>
        simp at ht
        subst ht
        exact ⟨.ref a, start_at (i := 0) (N := N) (vs := [.ref a]) (Nat.zero_lt_one), .v _⟩
      | succ i =>
        simp [List.getElem?_replicate] at ht
    · subst h
      cases s with
      | d z =>
        cases z
        exact q H2
end DL

/-! The end of a law whose body makes lambdas and shows things (repr): one table of code objects. -/
namespace DL
open PySem PySem.Spec PyProof.Rows L2 DX LamX
abbrev lobj (vs : List Value) : Obj := { cls := .type "list", data := .seq vs.toArray }
abbrev tobj : Obj := { cls := .none, data := .fields #[] }
/-- what is tracked at the law's entry: the table at T, the script at a unless it is written -/
def entH (K : PySem.W.Frag) (T a : Addr) (vs : List Value) (ns : List Int) : Hp := fun b =>
  if b = T then some (.tbl #[]) else if b = a ∧ K.lookup a = none then some (.frz (lobj vs) (.lst (ns.map V.int))) else none
section
variable {P : Program} {w : World} {K : PySem.W.Frag} {mg mb : Str → Option Value} {T a c : Addr} {s : Shared} {vs : List Value} {ns : List Int}
theorem entH_T : entH K T a vs ns T = some (.tbl #[]) := if_pos rfl
theorem entH_none {b : Addr} (h : b ≠ T) (h2 : b ≠ a) : entH K T a vs ns b = none := by
  unfold entH
  rw [if_neg h, if_neg fun z => h2 z.1]
theorem entH_cases {b : Addr} {o : HO} (h : entH K T a vs ns b = some o) : (b = T ∧ o = .tbl #[]) ∨ (b ≠ T ∧ b = a ∧ K.lookup a = none ∧ o = .frz (lobj vs) (.lst (ns.map V.int))) := by
  unfold entH at h
  by_cases h1 : b = T
  · rw [if_pos h1] at h
    cases h
    exact .inl ⟨h1, rfl⟩
  · rw [if_neg h1] at h
    by_cases h2 : b = a ∧ K.lookup a = none
    · rw [if_pos h2] at h
      cases h
      exact .inr ⟨h1, h2.1, h2.2, rfl⟩
    · rw [if_neg h2] at h
      cases h
variable (KX : K.In s.heap) (hT : s.heap.get? T = some tobj) (nT : K.lookup T = none) (ha : s.heap.get? a = some (lobj vs)) (hi : IntsAre vs ns)
include KX hT nT ha hi
/-- what is no list and no empty row of fields stands in the base -/
theorem ent_other {b : Addr} {o : Obj} (e : s.heap.get? b = some o) (h1 : ∀ xs n, o.data ≠ .seq xs n) (h2 : o.data ≠ .fields #[]) : entH K T a vs ns b = none := by
  refine entH_none (fun z => ?_) fun z => ?_
  · rw [z, hT] at e
    cases e
    exact h2 rfl
  · rw [z, ha] at e
    cases e
    exact h1 _ _ rfl
theorem ent_hok (hl : ns.length ≤ sizeLine) : HOk P w (entH K T a vs ns) s.heap := fun b o h => by
  rcases entH_cases h with ⟨rfl, rfl⟩ | ⟨_, rfl, _, rfl⟩
  · exact hT
  · exact ⟨ha, by rw [List.length_map]; exact hl, vs, _, vals_ints hi, ha⟩
theorem ent_kin : K.In (hidT s.heap (entH K T a vs ns)) := fun b o e => hidT_get (KX b o e) (by
  cases q : entH K T a vs ns b with
  | none => rfl
  | some u =>
    rcases entH_cases q with ⟨rfl, _⟩ | ⟨_, rfl, h, _⟩
    · rw [nT] at e
      cases e
    · rw [h] at e
      cases e)
theorem ent_ns {b : Addr} {m : Str → Option Value} (h : s.heap.Ns b m) : (hidT s.heap (entH K T a vs ns)).Ns b m := by
  obtain ⟨o, es, ep, e, d, r⟩ := h
  refine ⟨o, es, ep, hidT_get e (ent_other KX hT nT ha hi e (fun xs n z => ?_) fun z => ?_), d, r⟩ <;> rw [d] at z <;> cases z
theorem ent_seq (hl : ns.length ≤ sizeLine) : SqL K (entH K T a vs ns) a (ns.map V.int) := by
  have aT : a ≠ T := fun z => by
    rw [z, hT] at ha
    cases ha
  cases hk : K.lookup a with
  | none =>
    refine .inl (.inr ⟨lobj vs, ?_⟩)
    unfold entH
    rw [if_neg aT, if_pos ⟨rfl, hk⟩]
  | some o =>
    have e := KX a o hk
    rw [ha] at e
    cases e
    exact .inr ⟨_, vs.toArray, _, hk, rfl, rfl, rfl, by rw [List.size_toArray, hi.length]; exact hl, by simpa using vals_ints hi⟩
theorem ent_tab (hns : s.heap.Ns mainGlobals mg) (C : PySem.W.CodeHd s.heap c T)
    (hbm : ∃ (bm : Addr) (ob : Obj), mg "__builtins__" = some (.ref bm) ∧ bm ≠ builtinsNs ∧ s.heap.get? bm = some ob ∧ ob.cls = .type "module" ∧ ob.dict = some builtinsNs ∧ ob.data = .plain) : TabB (hidT s.heap (entH K T a vs ns)) mg c T := by
  refine ⟨?_, ?_, fun z => ?_⟩
  · obtain ⟨o, us, file, tf, flags, tg, inF, text, tt, e1, r1, r2, r3, r⟩ := C
    refine ⟨o, us, file, tf, flags, tg, inF, text, tt, hidT_get e1 (ent_other KX hT nT ha hi e1 (fun xs n z => ?_) fun z => ?_), r1, r2, r3, r⟩ <;> rw [r2] at z <;> cases z
    simp at r3
  · obtain ⟨bm, ob, b1, b2, b3, b4, b5, b6⟩ := hbm
    refine ⟨bm, ob, b1, b2, fun q => ?_, fun q => ?_, hidT_get b3 (ent_other KX hT nT ha hi b3 (fun xs n z => ?_) fun z => ?_), b4, b5, b6⟩
    · obtain ⟨o, es, ep, e, hd, _⟩ := hns
      rw [q, e] at b3
      cases b3
      rw [hd] at b6
      cases b6
    · rw [q, hT] at b3
      cases b3
      cases b6
    · rw [b6] at z
      cases z
    · rw [b6] at z
      cases z
  · obtain ⟨o, es, ep, e, hd, _⟩ := hns
    rw [z, hT] at e
    cases e
    cases hd
/-- the law is called -/
theorem law_callG {CX : CXT} {k : Nat} {fa : Addr} {fd : FuncData} {x : Str} {sp : Sp} (hns : s.heap.Ns mainGlobals mg) (hb : s.heap.Ns builtinsNs mb) (hbb : ∀ x : Str, x ≠ "__name__" → mb x = bootBuiltins x) (hlim : s.heap.NoLimit) (hg : s.gens = #[]) (C : PySem.W.CodeHd s.heap c T)
    (hbm : ∃ (bm : Addr) (ob : Obj), mg "__builtins__" = some (.ref bm) ∧ bm ≠ builtinsNs ∧ s.heap.get? bm = some ob ∧ ob.cls = .type "module" ∧ ob.dict = some builtinsNs ∧ ob.data = .plain) (hl : ns.length ≤ sizeLine) (hr : Room k callerA)
    (F : ∀ base : Heap, K.In base → base.Ns mainGlobals mg → TabB base mg c T → FnG P w K mg base CX k fa fd [x] sp) (hbind : ∀ (s : Shared) (u : Value), BindsTo s fd ⟨[u], []⟩ [(x, u)])
    (hsp : ∀ H : Hp, H T = some (.tbl #[]) → SqL K H a (ns.map V.int) → sp [.ref a] H (fun v _ => v = .bl true) fun _ _ _ => False) (hCX : ∀ H e s', CX [] H s (fun _ _ _ => False) e s' → False) :
    codeAny (model P w) callerA (.call (.ref fa) ⟨[.ref a], []⟩) (fun r s' => r = .ok (.ret (.bool true)) ∧ OldK s.heap s'.heap ∧ s'.os = s.os ∧ AllBare s'.gens) s := by
  have hM : L2.Mod K mg (hidT s.heap (entH K T a vs ns)) := ⟨ent_kin KX hT nT ha hi, ent_ns KX hT nT ha hi hns, ⟨mb, ent_ns KX hT nT ha hi hb, hbb⟩, by
    obtain ⟨mc, q1, q2⟩ := hlim
    exact ⟨mc, ent_ns KX hT nT ha hi q1, q2⟩⟩
  have hok := ent_hok (P := P) (w := w) KX hT nT ha hi hl
  have e0 : Env0 P w K mg (hidT s.heap (entH K T a vs ns)) callerA [] s (entH K T a vs ns) := {
    frames := rfl
    mod := hM
    bs := fun _ _ e => of_hidT e
    bsz := Nat.le_of_eq (hidT_size _ _)
    funs := trivial
    frf := fun _ hb => absurd hb List.not_mem_nil
    hok := hok
    bare := .of_eq hg }
  refine codeAny_mono ((F _ hM.kin hM.glob (ent_tab KX hT nT ha hi hns C hbm)).run callerA [] s _ ⟨[.ref a], []⟩ [.ref a] [.ref a] _ _ hr rfl e0 (hbind s (.ref a)) (.cons rfl .nil) (hsp _ entH_T (ent_seq KX hT nT ha hi hl))) fun r s' h => ?_
  match r, h with
  | .error e, h => exact (hCX _ e s' h).elim
  | .ok .next, h => exact False.elim h
  | .ok .brk, h => exact False.elim h
  | .ok .cont, h => exact False.elim h
  | .ok (.ret u), ⟨v, H', os, bare, un, hok', r', q⟩ =>
    cases (show v = .bl true from q)
    obtain rfl : u = Value.bool true := r'
    obtain ⟨more, hm⟩ := un.tbls T #[] entH_T
    have hm' : s'.heap.get? T = some { cls := .none, data := .fields (#[] ++ more) } := hok' T _ hm
    have old : ∀ b o, b ≠ T → s.heap.get? b = some o → s'.heap.get? b = some o := fun b o hb e => by
      cases q : entH K T a vs ns b with
      | none => exact un.keep b o e q (fun z => absurd z List.not_mem_nil) (by simp)
      | some u =>
        rcases entH_cases q with ⟨z, _⟩ | ⟨_, rfl, _, rfl⟩
        · exact absurd z hb
        · obtain ⟨e2, _⟩ := hok' b _ (un.frzs b _ _ q)
          rw [ha] at e
          cases e
          exact e2
    refine ⟨rfl, ⟨fun b o e => ?_, fun b o e => ?_⟩, os, bare⟩
    · by_cases hb : b = T
      · subst hb
        rw [hT] at e
        cases e
        exact .inr (.inl ⟨(C.tab hT).isCodeTable, rfl, #[], more, rfl, hm'⟩)
      · exact .inl (old b o hb e)
    · by_cases hb : b = T
      · subst hb
        exact ⟨_, hm'⟩
      · exact ⟨o, old b o hb e⟩
end
/-- the law's row from its promise -/
theorem walk_ofG {l : PySem.W.OpenLaw} {n k : Nat} {q : Program} {loose : List Str} {XP : (Str → Option Value) → Heap → Prop} {YP : World → Heap → Prop} {d : DefRec} {K : Params → PySem.W.Frag} {CX : World → CXT} {x : Str}
    (hn : l.most = some n) (hn2 : n ≤ sizeLine) (hdf : d.params.defaults = []) (hr : Room k callerA) (hY : ∀ (w : World) (h : Heap), YP w h → (K w.params).In h)
    (F : ∀ (w : World) (mg : Str → Option Value) (fa : Addr) (h : Heap), YP w h → (K w.params).In h → h.Ns mainGlobals mg → mg d.name = some (.ref fa) →
      ∃ (fd : FuncData) (c T : Addr) (sp : Sp), h.get? T = some tobj ∧ (K w.params).lookup T = none ∧ PySem.W.CodeHd h c T ∧ (∀ (s : Shared) (u : Value), BindsTo s fd ⟨[u], []⟩ [(x, u)]) ∧
        (∀ (H : Hp) (a : Addr) (ns : List Int), ns.length ≤ n → (∀ z ∈ ns, Builtin.Int.intBits z ≤ 1048576) → H T = some (.tbl #[]) → SqL (K w.params) H a (ns.map V.int) → sp [.ref a] H (fun v _ => v = .bl true) fun _ _ _ => False) ∧
        ∀ base : Heap, (K w.params).In base → base.Ns mainGlobals mg → TabB base mg c T → FnG l.prog w (K w.params) mg base (CX w) k fa fd [x] sp)
    (hCX : ∀ (w : World) (H : Hp) (s : Shared) (e : Value) (s' : Shared), CX w [] H s (fun _ _ _ => False) e s' → False) :
    PySem.W.WalkO q loose XP YP l.row.toRowW d [] (fun f vs => PySem.call f vs) := by
  refine Att.attach_callB hn hdf fun w s₀ s₁ mg mb fa o pm cd doc a vs ns G Y ho hd hcd hmg hobj hints hlen hbits hg => ?_
  obtain ⟨fd, c, T, sp, hT, nT, C, hb, hsp, hF⟩ := F w mg fa _ Y (hY w _ Y) G.T.g hmg
  exact law_callG (hY w _ Y) hT nT hobj hints G.T.g G.T.b G.T.builtins G.T.nolimit hg C G.T.bmain (Nat.le_trans hlen hn2) hr hF hb (fun H h1 h2 => hsp H a ns hlen hbits h1 h2) fun H e s' => hCX w H s₁ e s'
end DL

namespace DL
open PySem PySem.Spec PyProof.Rows L2 DX LamX
/-- what all_mk of a law gives: the table, the promise -/
def LawG (P : Program) (w : World) (K : PySem.W.Frag) (n k : Nat) (mg : Str → Option Value) (fa : Addr) (h : Heap) : Prop :=
  ∃ (fd : FuncData) (c T : Addr) (sp : Sp), h.get? T = some tobj ∧ K.lookup T = none ∧ PySem.W.CodeHd h c T ∧ (∀ (s : Shared) (u : Value), BindsTo s fd ⟨[u], []⟩ [("script", u)]) ∧
    (∀ (H : Hp) (a : Addr) (ns : List Int), ns.length ≤ n → (∀ z ∈ ns, Builtin.Int.intBits z ≤ 1048576) → H T = some (.tbl #[]) → SqL K H a (ns.map V.int) → sp [.ref a] H (fun v _ => v = .bl true) fun _ _ _ => False) ∧
    ∀ base : Heap, K.In base → base.Ns mainGlobals mg → TabB base mg c T → FnG P w K mg base CX0 k fa fd ["script"] sp
/-- the law's promise is asked with an empty table -/
theorem spLaw_tab {K : PySem.W.Frag} {T a : Addr} {q : Str} {H : Hp} {ns : List Int} (hT : H T = some (.tbl #[])) (hS : SqL K H a (ns.map V.int)) (hl : ns.length ≤ 63) (hb : ∀ z ∈ ns, Builtin.Int.intBits z ≤ 1048576) : spLaw K [(T, q)] [.ref a] H (fun v _ => v = .bl true) fun _ _ _ => False := by
  refine ⟨a, ns, rfl, hS, fun p hp => ?_, hl, hb, fun _ => rfl⟩
  cases List.mem_singleton.mp hp
  refine ⟨#[], hT, ?_, fun pos cv hc => ?_⟩
  · first | trivial | exact fun _ h => absurd h (by simp) | simp [TriplesOk]
  · first | cases hc | simp at hc | exact absurd hc (by simp)
theorem walk_ownG {l : PySem.W.OpenLaw} {n k : Nat} {q : Program} {loose : List Str} {XP : (Str → Option Value) → Heap → Prop} {YP : World → Heap → Prop} {d : DefRec} {K : Params → PySem.W.Frag}
    (hn : l.most = some n) (hn2 : n ≤ sizeLine) (hdf : d.params.defaults = []) (hr : Room k callerA) (hrec : ((recsOf q).any fun e => e.name == d.name) = true) (hY : ∀ (w : World) (h : Heap), YP w h → (K w.params).In h)
    (F : ∀ (w : World) (mg : Str → Option Value) (fa : Addr) (h : Heap), (K w.params).In h → h.Ns mainGlobals mg → mg d.name = some (.ref fa) → OwnTab (K w.params) fa h → LawG l.prog w (K w.params) n k mg fa h) :
    PySem.W.WalkO q loose XP YP l.row.toRowW d [] (fun f vs => PySem.call f vs) := by
  refine Att.attach_callB hn hdf fun w s₀ s₁ mg mb fa o pm cd doc a vs ns G Y ho hd hcd hmg hobj hints hlen hbits hg => ?_
  have KX := hY w _ Y
  obtain ⟨e, he, hname⟩ := List.any_eq_true.mp hrec
  obtain ⟨a1, o1, f1, c1, P1, q1, q2, q3, q4, q5, q6, q7⟩ := G.T.tab e he
  rw [beq_iff_eq.mp hname, hmg] at q1
  cases q1
  have own : OwnTab (K w.params) fa s₁.heap := by
    intro c P x fd cl dd us sl r1 r2 r3 r4 r5
    have s1 := (KX _ _ r1).symm.trans q2
    cases s1
    have s2 := r2.symm.trans q3
    cases s2
    have s3 := r3.symm.trans q4
    cases s3
    obtain ⟨oc, vc, t1, t2, t3, t4⟩ := q6
    have s4 := (KX _ _ r4).symm.trans t1
    cases s4
    cases t3
    rw [r5] at t4
    cases t4
    exact q7
  obtain ⟨fd, c, T, sp, hT, nT, C, hb, hsp, hF⟩ := F w mg fa _ KX G.T.g hmg own
  exact law_callG KX hT nT hobj hints G.T.g G.T.b G.T.builtins G.T.nolimit hg C G.T.bmain (Nat.le_trans hlen hn2) hr hF hb (fun H h1 h2 => hsp H a ns hlen hbits h1 h2) fun H e s' z => z
end DL

namespace K
open PySem PySem.Spec PyProof.Rows L2 DL DX
abbrev PP : Program := PySem.Challenge.pw_siftedhome_k00_permutations
def top (i : Nat) : Stmt := PP.main.body.getD i (.Pass ⟨0, 0, 0, 0⟩)
abbrev c_HomeError : Stmt := top 1
abbrev c_BadPerm : Stmt := top 2
abbrev c_BadNumber : Stmt := top 3
abbrev s_is_whole : Stmt := top 7
abbrev s_is_perm : Stmt := top 8
abbrev s_is_perm_of : Stmt := top 9
abbrev s_need_perm : Stmt := top 10
abbrev s_need_same : Stmt := top 11
abbrev s_need_size : Stmt := top 12
abbrev s_own_then : Stmt := top 13
abbrev s_own_back : Stmt := top 14
abbrev s_own_identity : Stmt := top 15
abbrev s_then : Stmt := top 16
abbrev s_back : Stmt := top 17
abbrev s_identity : Stmt := top 18
abbrev s_power : Stmt := top 19
abbrev s_l_mixed : Stmt := top 21
abbrev s_l_draw : Stmt := top 22
abbrev s_l_digit : Stmt := top 23
abbrev s_l_then : Stmt := top 24
abbrev s_l_back : Stmt := top 25
abbrev s_l_perm : Stmt := top 26
abbrev s_l_told : Stmt := top 27
abbrev s_l_is_perm : Stmt := top 28
abbrev s_l_odd : Stmt := top 29
abbrev s_l_power : Stmt := top 30
abbrev s_law : Stmt := top 31
end K

namespace K
open PySem PySem.Spec PyProof.Rows L2 DL DX
local macro_rules | `(tactic| walk_at "go") => `(tactic| first
  | exact ex_int | exact ex_str | exact ex_bool | exact ex_none
  | exact ex_var 0 | exact ex_var 1 | exact ex_var 2 | exact ex_var 3 | exact ex_var 4 | exact ex_var 5
  | (apply ex_bin <;> walk_at "go")
  | (apply ex_cmp <;> walk_at "go")
  | (apply ex_list <;> walk_at "go")
  | (apply ex_dget; (focus walk_at "go"); (focus walk_at "go"); (focus exact rfl); (focus exact (show _ = _ from rfl)); (focus exact rfl); all_goals walk_at "go")
  | (apply ex_ixL <;> walk_at "go")
  | (apply ea_cons <;> walk_at "go") | exact ea_nil
  | exact os_add | exact os_sub | (refine os_mod ?_; walk_at "go") | (refine os_div ?_; walk_at "go") | (refine os_mul ?_; walk_at "go") | (refine os_pow ?_; walk_at "go")
  | exact os_lt | exact os_le | exact os_gt | exact os_ge | exact os_eqI | exact os_neI
  | rfl | assumption | (intro _; rfl) | (intro _ _; rfl) | decide | omega | skip)
/-! ### numbers drawn -/
theorem sc_mixed : FnScope ["cell", "k", "number"] ["cell", "k"] (defScope s_l_mixed) := ⟨rfl, rfl, rfl, by decide +kernel, rfl, by decide +kernel, by decide +kernel⟩
def mNum (cell k m : Int) : Int := cell % m + 7919 * k + 13
def mods (k : Int) : Int := ([1000000007, 998244353, 2147483629, 1000000009] : List Int).getD (k % 4).toNat 1
def mixed (cell k : Int) : Int := mNum cell k (mods k) * mNum cell k (mods k) % 2147483647 * 48271 % 2147483647
theorem mods_at (k : Int) : atI [S.d (.int 1000000007), .d (.int 998244353), .d (.int 2147483629), .d (.int 1000000009)] (k % 4) = some (.d (.int (mods k))) := by
  have h0 : 0 ≤ k % 4 := Int.emod_nonneg _ (by decide)
  have h1 : k % 4 < 4 := Int.emod_lt_of_pos _ (by decide)
  unfold mods
  have : k % 4 = 0 ∨ k % 4 = 1 ∨ k % 4 = 2 ∨ k % 4 = 3 := by omega
  rcases this with e | e | e | e <;> rw [e] <;> rfl
theorem mods_pos (k : Int) : 0 < mods k ∧ mods k ≤ 2147483647 := by
  have h0 : 0 ≤ k % 4 := Int.emod_nonneg _ (by decide)
  have h1 : k % 4 < 4 := Int.emod_lt_of_pos _ (by decide)
  unfold mods
  have : k % 4 = 0 ∨ k % 4 = 1 ∨ k % 4 = 2 ∨ k % 4 = 3 := by omega
  rcases this with e | e | e | e <;> rw [e] <;> decide
theorem mNum_b {cell k m : Int} (h : 0 < m ∧ m ≤ 2147483647) (h0 : 0 ≤ k) (h1 : k ≤ 1000000000000) : 0 ≤ mNum cell k m ∧ mNum cell k m < 10000000000000000 := by
  unfold mNum
  have := Int.emod_nonneg cell (by omega : m ≠ 0)
  have := Int.emod_lt_of_pos cell h.1
  omega
def Rmixed : Rl := fun args M r M' => ∃ cell k : Int, args = [.d (.int cell), .d (.int k)] ∧ 0 ≤ k ∧ k ≤ 1000000000000 ∧ M = [] ∧ r = .d (.int (mixed cell k)) ∧ M' = []
theorem ok_mixed {m : Ms} (h : HasD m "_law_mixed" s_l_mixed ["cell", "k"]) : FnD m 1 "_law_mixed" ["cell", "k"] Rmixed := by
  refine fnD_of h sc_mixed (by decide) ?_
  rintro args M r M' - ⟨cell, k, rfl, h0, h1, rfl, rfl, rfl⟩
  have hix := mods_at k
  have hm := mods_pos k
  have hb := mNum_b (cell := cell) hm h0 h1
  unfold mixed
  generalize mods k = mm at hix hm hb ⊢
  have e : mNum cell k mm = cell % mm + 7919 * k + 13 := rfl
  rw [e] at hb ⊢
  generalize en : cell % mm + 7919 * k + 13 = nn at hb ⊢
  have hmm := hm.1
  show BX _ _ _ (defBody s_l_mixed) _
  refine bx_cons ?_
  apply sx_set 2
  · walk_at "go"
    exact .inl ⟨by decide, by decide⟩
  · rw [en]
    refine bx_one ?_
    apply sx_ret
    · walk_at "go"
      · exact .inl ⟨by omega, by omega⟩
      · exact .inr ⟨by decide, by decide⟩
    · exact fin0
/-- the state of the draws: what is left, the cell, the turns -/
structure St3 where
  L : Int
  c : Int
  t : Int
abbrev stM (s : St3) : MO := .dk [(.inr "left", .d (.int s.L)), (.inr "cell", .d (.int s.c)), (.inr "turns", .d (.int s.t))]
theorem stM_fr (s : St3) : FrM (stM s) := .dk fun x hx => by
  simp only [List.mem_cons, List.not_mem_nil, or_false] at hx
  rcases hx with rfl | rfl | rfl <;> exact .d _
def st0 (cell k : Int) : St3 := ⟨if 10 ^ 18 ≤ cell then cell else 0, cell, 1000 * k⟩
theorem sc_draw : FnScope ["cell", "k"] ["cell", "k"] (defScope s_l_draw) := ⟨rfl, rfl, rfl, by decide +kernel, rfl, by decide +kernel, by decide +kernel⟩
def Rdraw : Rl := fun args M r M' => ∃ cell k : Int, args = [.d (.int cell), .d (.int k)] ∧ 0 ≤ k ∧ k ≤ 1000000 ∧ M = [] ∧ r = .p 0 ∧ M' = [stM (st0 cell k)]
theorem ok_draw {m : Ms} (h : HasD m "_law_draw" s_l_draw ["cell", "k"]) : FnD m 1 "_law_draw" ["cell", "k"] Rdraw := by
  refine fnD_of h sc_draw (by decide) ?_
  rintro args M r M' - ⟨cell, k, rfl, h0, h1, rfl, rfl, rfl⟩
  show BX _ _ _ (defBody s_l_draw) _
  refine bx_one ?_
  apply sx_ret
  · apply ex_disp
    · refine .cons ex_str (show _ = _ from rfl) (ex_if (q := decide ((10 : Int) ^ 18 ≤ cell)) (r := .d (.int (st0 cell k).L)) (M1 := [.dk []]) (M2 := [.dk []]) ?_ ?_ ?_) (.cons ex_str (show _ = _ from rfl) (ex_var 0) (.cons ex_str (show _ = _ from rfl) (M2 := [.dk []]) (y := .d (.int (1000 * k))) ?_ .nil))
      · apply et_cmp
        · exact ex_var 0
        · walk_at "go"
          exact ⟨by decide, by decide, by decide⟩
        · exact os_ge
        · exact nomark _
      · intro q
        have e : (st0 cell k).L = cell := if_pos (of_decide_eq_true q)
        rw [e]
        exact ex_var 0
      · intro q
        have e : (st0 cell k).L = 0 := if_neg (of_decide_eq_false q)
        rw [e]
        exact ex_int
      · walk_at "go"
        exact .inl ⟨by decide, by decide⟩
    · rfl
    · exact fun z => by cases z
    · exact Nat.le_of_ble_eq_true rfl
  · exact fin_p (k := 0) (Nat.le_refl _) rfl rfl fun m hm => by
      simp only [List.length_nil, List.take_zero, List.nil_append, List.mem_singleton] at hm
      subst hm
      exact stM_fr (st0 cell k)

def fillN (c t : Int) : Nat → Int
  | 0 => 0
  | j + 1 => fillN c t j * 2147483647 + mixed c (t + (j : Int) + 1)
/-- what is left ahead of a draw -/
def St3.F (s : St3) : Int := if s.L = 0 then fillN s.c s.t 4 else s.L
def dg (s : St3) (b : Int) : Int := s.F % b
def nx (s : St3) (b : Int) : St3 := ⟨s.F / b, s.c, if s.L = 0 then s.t + 4 else s.t⟩
theorem dg_b (s : St3) {b : Int} (h : 0 < b) : 0 ≤ dg s b ∧ dg s b < b := ⟨Int.emod_nonneg _ (by omega), Int.emod_lt_of_pos _ h⟩
theorem nx_t (s : St3) (b : Int) : s.t ≤ (nx s b).t ∧ (nx s b).t ≤ s.t + 4 := by
  show s.t ≤ (if s.L = 0 then s.t + 4 else s.t) ∧ (if s.L = 0 then s.t + 4 else s.t) ≤ s.t + 4
  split <;> omega
theorem sc_digit : FnScope ["state", "below", "j", "found"] ["state", "below"] (defScope s_l_digit) := ⟨rfl, rfl, rfl, by decide +kernel, rfl, by decide +kernel, by decide +kernel⟩
def Rdigit : Rl := fun args M r M' => ∃ (s : St3) (b : Int), args = [.p 0, .d (.int b)] ∧ 0 < b ∧ b < 1073741824 ∧ 0 ≤ s.t ∧ s.t ≤ 100000000 ∧ M = [stM s] ∧ r = .d (.int (dg s b)) ∧ M' = [stM (nx s b)]
theorem ok_digit {m : Ms} (h : HasD m "_law_digit" s_l_digit ["state", "below"]) (hr : m.mg "range" = none) (D : FnD m 1 "_law_mixed" ["cell", "k"] Rmixed) : FnD m 2 "_law_digit" ["state", "below"] Rdigit := by
  refine fnD_of h sc_digit (by decide) ?_
  rintro args M r M' - ⟨s, b, rfl, hb0, hb1, ht0, ht1, rfl, rfl, rfl⟩
  obtain ⟨L, c, t⟩ := s
  dsimp only at ht0 ht1
  show BX _ _ _ (defBody s_l_digit) _
  refine bx_cons ?_
  have tail : ∀ (z1 : Option S) (L1 c1 t1 : Int), nx ⟨L, c, t⟩ b = ⟨L1 / b, c1, t1⟩ → dg ⟨L, c, t⟩ b = L1 % b → BX (m.cs ["state", "below", "j", "found"] (defScope s_l_digit) 1) [some (.p 0), some (.d (.int b)), z1, none] [stM ⟨L1, c1, t1⟩] ((defBody s_l_digit).drop 1)
      { nx := fun _ M'' => Fin 1 (.d .none) M'' (.d (.int (dg ⟨L, c, t⟩ b))) [stM (nx ⟨L, c, t⟩ b)], rt := fun r' M'' => Fin 1 r' M'' (.d (.int (dg ⟨L, c, t⟩ b))) [stM (nx ⟨L, c, t⟩ b)] } := by
    intro z1 L1 c1 t1 e1 e2
    rw [e1, e2]
    refine bx_cons ?_
    apply sx_set 3
    · walk_at "go"
    · refine bx_cons ?_
      apply sx_dput
      · walk_at "go"
      · walk_at "go"
      · walk_at "go"
      · rfl
      · rfl
      · exact Nat.le_of_ble_eq_true rfl
      · refine bx_one ?_
        apply sx_ret
        · exact ex_var 3
        · exact fin_d (Nat.le_refl _) rfl fun m hm => by
            simp only [List.mem_singleton] at hm
            subst hm
            exact stM_fr ⟨L1 / b, c1, t1⟩
      · intro _ _
        rfl
  apply sx_if (q := decide (L = 0))
  · apply et_cmp
    · walk_at "go"
    · walk_at "go"
    · exact os_eqI
    · exact nomark _
  · intro q
    have q0 : L = 0 := of_decide_eq_true q
    refine bx_one ?_
    refine sx_for (ix_range1 ex_int (hm := hr)) (fun j Γ M => ∃ z, Γ = [some (.p 0), some (.d (.int b)), z, none] ∧ M = [stM ⟨fillN c t j, c, t + (j : Int)⟩]) ⟨_, Fg.refl _, none, rfl, ?_⟩ (fun _ _ _ _ _ => trivial) ?_ ?_
    · rw [q0]
      show _ = [stM ⟨0, c, t + ((0 : Nat) : Int)⟩]
      rw [show t + ((0 : Nat) : Int) = t from by omega]
    · rintro j Γ M hj ⟨z, rfl, rfl⟩
      refine ⟨_, _, gx_name 2, ?_⟩
      have hj4 : j < 4 := hj
      refine bx_cons ?_
      apply sx_dput
      · walk_at "go"
      · walk_at "go"
      · walk_at "go"
      · rfl
      · rfl
      · exact Nat.le_of_ble_eq_true rfl
      · refine bx_one ?_
        apply sx_dput
        · apply ex_bin
          · walk_at "go"
            exact .inr ⟨by decide, by decide⟩
          · refine ex_call [] D (M1 := [stM ⟨fillN c t j, c, t + (j : Int) + 1⟩]) (rs := [.d (.int c), .d (.int (t + (j : Int) + 1))]) ?_ ⟨c, t + (j : Int) + 1, rfl, by omega, by omega, rfl, rfl, rfl⟩ (proj_d (ds := [.int c, .int (t + (j : Int) + 1)])) rfl
            walk_at "go"
          · exact os_add
        · walk_at "go"
        · walk_at "go"
        · rfl
        · rfl
        · exact Nat.le_of_ble_eq_true rfl
        · refine nxt_of (Γ' := [some (.p 0), some (.d (.int b)), some (.d (.int (j : Nat))), none]) (M' := [stM ⟨fillN c t (j + 1), c, t + ((j + 1 : Nat) : Int)⟩]) (Nat.le_refl _) ?_ ⟨⟨trivial, trivial, trivial, trivial⟩, trivial⟩ ⟨rfl, rfl, rfl, trivial⟩ ⟨Nat.zero_lt_one, trivial, trivial, trivial⟩ ⟨_, rfl, rfl⟩
          rw [show t + ((j + 1 : Nat) : Int) = t + (j : Int) + 1 from by omega]
          rfl
        · intro _ _
          rfl
      · intro _ _
        rfl
    · rintro Γ M ⟨z, rfl, rfl⟩
      refine tail z _ _ _ ?_ ?_
      · show (⟨St3.F ⟨L, c, t⟩ / b, c, if L = 0 then t + 4 else t⟩ : St3) = _
        unfold St3.F
        rw [if_pos q0, if_pos q0]
        rfl
      · show St3.F ⟨L, c, t⟩ % b = _
        unfold St3.F
        rw [if_pos q0]
        rfl
  · intro q
    have q0 : ¬ L = 0 := of_decide_eq_false q
    refine bx_nil ?_
    refine tail none _ _ _ ?_ ?_
    · show (⟨St3.F ⟨L, c, t⟩ / b, c, if L = 0 then t + 4 else t⟩ : St3) = _
      unfold St3.F
      rw [if_neg q0, if_neg q0]
    · show St3.F ⟨L, c, t⟩ % b = _
      unfold St3.F
      rw [if_neg q0]
end K

namespace K
open PySem PySem.Spec PyProof.Rows L2 DL DX
/-! ### what is a whole number, a permutation -/
theorem sc_is_whole : FnScope ["thing", "least", "most"] ["thing", "least", "most"] (defScope s_is_whole) := ⟨rfl, rfl, rfl, by decide +kernel, rfl, by decide +kernel, by decide +kernel⟩
def Rwhole : Rl := fun args M r M' => ∃ (d : PyData) (lo hi : Int), args = [.d d, .d (.int lo), .d (.int hi)] ∧ M = [] ∧ r = .d (.bool (PL.whole d lo hi)) ∧ M' = []
theorem ok_is_whole {m : Ms} (Z : Std m.mg) (h : HasD m "is_whole" s_is_whole ["thing", "least", "most"]) : FnD m 1 "is_whole" ["thing", "least", "most"] Rwhole := by
  refine fnD_of h sc_is_whole (by decide) ?_
  rintro args M r M' - ⟨d, lo, hi, rfl, rfl, rfl, rfl⟩
  show BX _ _ _ (defBody s_is_whole) _
  refine bx_one (sx_ret (r := .d (.bool (PL.whole d lo hi))) (M1 := []) ?_ fin0)
  cases hd : isInt d with
  | false =>
    refine ex_to (ex_and (q1 := false) (q2 := false) (ex_to (ex_isInt Z (ex_var 0) (.d d)) (by rw [isA_int, hd]) rfl) fun q => absurd q Bool.false_ne_true) ?_ rfl
    cases d <;> first | rfl | cases hd
  | true =>
    cases hb : isBool d with
    | true =>
      refine ex_to (ex_and (q1 := true) (q2 := false) (ex_to (ex_isInt Z (ex_var 0) (.d d)) (by rw [isA_int, hd]) rfl) fun _ => ex_and (q1 := false) (q2 := false) (ex_to (ex_not (ex_isBool Z (ex_var 0) (.d d))) (by rw [isA_bool, hb]; rfl) rfl) fun q => absurd q Bool.false_ne_true) ?_ rfl
      cases d <;> first | rfl | cases hb
    | false =>
      cases d with
      | int i => exact ex_to (ex_and (q1 := true) (ex_to (ex_isInt Z (ex_var 0) (.d (.int i))) (by rw [isA_int]; rfl) rfl) fun _ => ex_and (q1 := true) (ex_to (ex_not (ex_isBool Z (ex_var 0) (.d (.int i)))) (by rw [isA_bool]; rfl) rfl) fun _ => ex_one (ex_chain (ex_var 1) (ex_var 0) os_le (fun _ => ex_var 2) (fun _ => os_le))) rfl rfl
      | bool b => cases hb
      | _ => cases hd

theorem sc_is_perm : FnScope ["thing", "place"] ["thing"] (defScope s_is_perm) := ⟨rfl, rfl, rfl, by decide +kernel, rfl, by decide +kernel, by decide +kernel⟩
def Ris_perm : Rl := fun args M r M' => ∃ (s : S) (d : PyData), args = [s] ∧ Dt M s d ∧ loMs 0 M ∧ r = .d (.bool (PL.okP d)) ∧ M' = M
theorem okP_no {d : PyData} (h : isTup d = false) : PL.okP d = false := by cases d <;> first | rfl | cases h
theorem ok_is_perm {m : Ms} (Z : Std m.mg) (hP : GI m.mg "MOST_PLACES" 24) (F : FnD m 1 "is_whole" ["thing", "least", "most"] Rwhole) (h : HasD m "is_perm" s_is_perm ["thing"]) : FnD m 2 "is_perm" ["thing"] Ris_perm := by
  refine fnD_of h sc_is_perm (by decide) ?_
  rintro args M r M' - ⟨s, d, rfl, hd, lo, rfl, rfl⟩
  show BX _ [some s, none] M' (defBody s_is_perm) _
  cases ht : isTup d with
  | false =>
    refine bx_cons (sx_if (q := true) (M1 := M') ?_ ?_ (fun q => by cases q))
    · exact et_w (ew_orT (et_to (et_not (et_val (ex_isTuple Z (ex_var 0) hd.dg))) (by rw [isA_tup, ht]; rfl) rfl))
    · exact fun _ => bx_one (sx_ret ex_bool (fin_d00 lo (by rw [okP_no ht])))
  | true =>
    obtain ⟨ds, rfl⟩ : ∃ ds, d = .tuple ds := by cases d <;> first | exact ⟨_, rfl⟩ | cases ht
    have hi := hd.items
    have hl : (ds.map S.d).length = ds.length := List.length_map ..
    have hlen : ∀ {Γ : Gm} {T : Sto} {c : Cs} {p p2 pos : Pos}, c.mg = m.mg → c.sc.names.lookup ("len" : Str) = some gI → EX c Γ T (.Name "thing" p2) s T → EX c Γ T (.Call (.Name "len" p) [.Name "thing" p2] [] pos) (.d (.int ds.length)) T := fun {Γ T c p p2 pos} e1 e2 e3 => by
      have := ex_len (p := p) (pos := pos) (by rw [e1]; exact Z) e3 (.tup hi) e2 (fun _ => rfl)
      rwa [hl] at this
    by_cases hb : 1 ≤ ds.length ∧ ds.length ≤ 24
    · refine bx_cons (sx_if (q := false) (M1 := M') ?_ (fun q => by cases q) (fun _ => bx_nil ?_))
      · refine et_to (et_w (ew_orF (et_to (et_not (et_val (ex_isTuple Z (ex_var 0) hd.dg))) (by rw [isA_tup, ht]; rfl) rfl) (ew_or1 (et_not (et_chain ex_int (hlen rfl rfl (ex_var 0)) os_le (fun _ => ex_globI hP) (fun _ => os_le)))))) ?_ rfl
        have h1 : (1 : Int) ≤ (ds.length : Int) := by omega
        have h2 : (ds.length : Int) ≤ 24 := by omega
        simp [h1, h2]
      · have hW : loMs M'.length M' := loMs_up lo
        have hcomp : ∀ {Γ : Gm}, Γ = [some s, none] → ∀ {p p2 : Pos}, True := fun _ => trivial
        refine bx_cons (sx_if (q := !(ds.all fun x => PL.whole x 0 ((ds.length : Int) - 1))) (M1 := M' ++ [.lst (boolsS (ds.map fun x => PL.whole x 0 ((ds.length : Int) - 1)))]) ?_ ?_ ?_)
        · refine et_to (et_not (et_val (ex_all (k := M'.length) (bs := ds.map fun x => PL.whole x 0 ((ds.length : Int) - 1)) Z (ex_to (ex_lcA (W := M') (fun s => match s with | .d x => .d (.bool (PL.whole x 0 ((ds.length : Int) - 1))) | _ => .d .none) [("place", 1)] (ix_tup' (ex_var 0) hi) (fun _ => trivial) (by rw [hl]; omega) hW ?_ ?_) rfl ?_) (m := .lst _) (by simp) rfl))) ?_ rfl
          · intro s hs
            obtain ⟨x, _, rfl⟩ := List.mem_map.mp hs
            trivial
          · intro s1 hs acc
            obtain ⟨x, _, rfl⟩ := List.mem_map.mp hs
            refine ⟨_, gw_name 1, ?_⟩
            exact ex_call [] F (ea_cons (ex_var 1) (ea_cons ex_int (ea_cons (ex_bin (hlen rfl rfl (ex_var 0)) ex_int os_sub) ea_nil))) ⟨x, 0, (ds.length : Int) - 1, rfl, rfl, rfl, rfl⟩ (proj_d (ds := [x, .int 0, .int ((ds.length : Int) - 1)])) rfl
          · rw [List.map_map]
            simp [boolsS]
          · simp [List.all_map, Function.comp_def]
        · intro q
          refine bx_one (sx_ret ex_bool (fin_d0 lo ?_))
          simp only [Bool.not_eq_true'] at q
          simp [PL.okP, q]
        · intro q
          refine bx_nil (bx_one (sx_ret (r := .d (.bool (PL.okP (.tuple ds)))) (M1 := M' ++ [.lst (boolsS (ds.map fun x => PL.whole x 0 ((ds.length : Int) - 1)))]) ?_ (fin_d0 lo rfl)))
          have q' : (ds.all fun x => PL.whole x 0 ((ds.length : Int) - 1)) = true := by simpa using q
          obtain ⟨p, rfl, hp⟩ := PL.wholes q'
          have hi' : Items s (intsS (PL.zN p)) := by
            rw [PL.dN_z, ints_s] at hi
            exact hi
          have hpl : (PL.zN p).length = (PL.dN p).length := by simp
          refine ex_to (ex_cmp (ex_lenSet Z (ex_var 0) hi' (by rw [hpl]; omega)) (hlen rfl rfl (ex_var 0)) os_eqI) ?_ rfl
          congr 2
          have e : PL.okP (.tuple (PL.dN p)) = decide ((PL.zN p).Nodup) := by
            simp only [PL.okP, hb.1, hb.2, q', decide_true, Bool.true_and, PL.iv_dN]
          rw [e]
          refine decide_eq_decide.mpr ?_
          rw [← hpl, ← dd_eq]
          omega
    · refine bx_cons (sx_if (q := true) (M1 := M') ?_ ?_ (fun q => by cases q))
      · refine et_to (et_w (ew_orF (et_to (et_not (et_val (ex_isTuple Z (ex_var 0) hd.dg))) (by rw [isA_tup, ht]; rfl) rfl) (ew_or1 (et_not (et_chain ex_int (hlen rfl rfl (ex_var 0)) os_le (fun _ => ex_globI hP) (fun _ => os_le)))))) ?_ rfl
        by_cases h1 : (1 : Int) ≤ (ds.length : Int)
        · have h2 : ¬ (ds.length : Int) ≤ 24 := by omega
          simp [h2]
        · simp [h1]
      · refine fun _ => bx_one (sx_ret ex_bool (fin_d00 lo ?_))
        have : (decide (1 ≤ ds.length) && decide (ds.length ≤ 24)) = false := by
          by_cases h1 : 1 ≤ ds.length
          · have h2 : ¬ ds.length ≤ 24 := fun z => hb ⟨h1, z⟩
            simp [h2]
          · simp [h1]
        simp [PL.okP, this]
end K

namespace K
open PySem PySem.Spec PyProof.Rows L2 DL DX
/-- what is known of the own classes -/
structure XB (m : Ms) (CP CN : Addr) : Prop where
  xP : XM m "BadPerm" CP "value" "no such permutation" "value" true
  xN : XM m "BadNumber" CN "value" "no such number" "value" true
  qP : XqC m.K CP
  qN : XqC m.K CN
  tP : PySem.W.typeIn m.K (.ref CP) = some (.type "type")
  tN : PySem.W.typeIn m.K (.ref CN) = some (.type "type")
  fP : PySem.W.findIn m.K (.ref CP) "value" = some none
  fN : PySem.W.findIn m.K (.ref CN) "value" = some none
def lenD : PyData → Nat
  | .tuple ds => ds.length
  | _ => 0
def okPn (n : Int) (d : PyData) : Bool := PL.okP d && decide ((lenD d : Int) = n)
theorem okP_len {M : Sto} {s : S} {d : PyData} (h : Dt M s d) (k : PL.okP d = true) : Ln M s (lenD d) := by
  obtain ⟨p, rfl, _⟩ := PL.okP_iff.mp k
  have := Ln.tup (M := M) h.items
  rwa [List.length_map] at this
theorem sc_is_perm_of : FnScope ["size", "thing"] ["size", "thing"] (defScope s_is_perm_of) := ⟨rfl, rfl, rfl, by decide +kernel, rfl, by decide +kernel, by decide +kernel⟩
def Ris_perm_of : Rl := fun args M r M' => ∃ (s : S) (d : PyData) (n : Int), args = [.d (.int n), s] ∧ Dt M s d ∧ loMs 0 M ∧ r = .d (.bool (okPn n d)) ∧ M' = M
theorem ok_is_perm_of {m : Ms} (Z : Std m.mg) (F : FnD m 2 "is_perm" ["thing"] Ris_perm) (h : HasD m "is_perm_of" s_is_perm_of ["size", "thing"]) : FnD m 3 "is_perm_of" ["size", "thing"] Ris_perm_of := by
  refine fnD_of h sc_is_perm_of (by decide) ?_
  rintro args M r M' - ⟨s, d, n, rfl, hd, lo, rfl, rfl⟩
  show BX _ [some (.d (.int n)), some s] M' (defBody s_is_perm_of) _
  refine bx_one (sx_ret (r := .d (.bool (okPn n d))) (M1 := M') ?_ (fin_d00 lo rfl))
  unfold okPn
  refine ex_and (ex_call (List.range M'.length) F (ea_cons (ex_var 1) ea_nil) ⟨s, d, rfl, hd, lo, rfl, rfl⟩ (proj_same (loL1 hd.lo) lo trivial) rfl) fun q => ex_one ?_
  exact ex_cmp (ex_len Z (ex_var 1) (okP_len hd q)) (ex_var 0) os_eqI
inductive RneedP (CP : Addr) : Rx
  | ok {M : Sto} {s : S} {d : PyData} : Dt M s d → loMs 0 M → PL.okP d = true → RneedP CP [s] M (.val (.d .none)) M
  | no {M : Sto} {s : S} {d : PyData} : Dt M s d → loMs 0 M → PL.okP d = false → RneedP CP [s] M (.exc CP M.length) (M ++ [.xd [("value", s)]])
theorem sc_need_perm : FnScope ["perm"] ["perm"] (defScope s_need_perm) := ⟨rfl, rfl, rfl, by decide +kernel, rfl, by decide +kernel, by decide +kernel⟩
theorem ok_need_perm {m : Ms} {CP CN : Addr} (B : XB m CP CN) (F : FnD m 2 "is_perm" ["thing"] Ris_perm) (h : HasD m "need_perm" s_need_perm ["perm"]) : FnX m 3 "need_perm" ["perm"] (RneedP CP) := by
  refine fnX_of h sc_need_perm (by decide) ?_
  intro args M o M' _ R
  cases R with
  | @ok _ s d hd lo hk =>
    show BX _ [some s] M (defBody s_need_perm) _
    exact bx_one (sx_if (q := false) (M1 := M) (et_to (et_not (et_val (ex_call (List.range M.length) F (ea_cons (ex_var 0) ea_nil) ⟨s, d, rfl, hd, lo, rfl, rfl⟩ (proj_same (loL1 hd.lo) lo trivial) rfl))) (by rw [hk]; rfl) rfl) (fun q => by cases q) (fun _ => bx_nil (fin_d00 lo rfl)))
  | @no _ s d hd lo hk =>
    show BX _ [some s] M (defBody s_need_perm) _
    refine bx_one (sx_if (q := true) (M1 := M) (et_to (et_not (et_val (ex_call (List.range M.length) F (ea_cons (ex_var 0) ea_nil) ⟨s, d, rfl, hd, lo, rfl, rfl⟩ (proj_same (loL1 hd.lo) lo trivial) rfl))) (by rw [hk]; rfl) rfl) (fun _ => ?_) (fun q => by cases q))
    exact bx_one (sx_raiseV B.xP px_csX B.qP B.tP (ex_var 0) (Nat.le_refl _) (loMs_up lo) hd.lo ⟨rfl, finX_xd lo hd.lo⟩)
inductive RneedS (CP : Addr) : Rx
  | ok {M : Sto} {s t : S} {d e : PyData} : Dt M s d → Dt M t e → loMs 0 M → PL.okP d = true → okPn (lenD d) e = true → RneedS CP [s, t] M (.val (.d .none)) M
  | no1 {M : Sto} {s t : S} {d e : PyData} : Dt M s d → Dt M t e → loMs 0 M → PL.okP d = false → RneedS CP [s, t] M (.exc CP M.length) (M ++ [.xd [("value", s)]])
  | no2 {M : Sto} {s t : S} {d e : PyData} : Dt M s d → Dt M t e → loMs 0 M → PL.okP d = true → okPn (lenD d) e = false → RneedS CP [s, t] M (.exc CP M.length) (M ++ [.xd [("value", t)]])
theorem sc_need_same : FnScope ["one", "other"] ["one", "other"] (defScope s_need_same) := ⟨rfl, rfl, rfl, by decide +kernel, rfl, by decide +kernel, by decide +kernel⟩
theorem ok_need_same {m : Ms} {CP CN : Addr} (Z : Std m.mg) (B : XB m CP CN) (F : FnX m 3 "need_perm" ["perm"] (RneedP CP)) (G : FnD m 3 "is_perm_of" ["size", "thing"] Ris_perm_of) (h : HasD m "need_same" s_need_same ["one", "other"]) : FnX m 4 "need_same" ["one", "other"] (RneedS CP) := by
  refine fnX_of h sc_need_same (by decide) ?_
  intro args M o M' _ R
  cases R with
  | @no1 _ s t d e hd he lo hk =>
    show BX _ [some s, some t] M (defBody s_need_same) _
    exact bx_cons (sx_exprR (er_call (List.range M.length) F (ea_cons (ex_var 0) ea_nil) (.no hd lo hk) (proj_all (loL1 hd.lo) (loMs_up lo) (by simp) (loMs_xd lo hd.lo) (by simp [loS])) rfl) ⟨rfl, finX_xd lo hd.lo⟩)
  | @ok _ s t d e hd he lo hk hk2 =>
    show BX _ [some s, some t] M (defBody s_need_same) _
    refine bx_cons (sx_expr (ex_callX (List.range M.length) F (ea_cons (ex_var 0) ea_nil) (.ok hd lo hk) (proj_same (loL1 hd.lo) lo trivial) rfl) ?_)
    exact bx_one (sx_if (q := false) (M1 := M) (et_to (et_not (et_val (ex_call (List.range M.length) G (ea_cons (ex_len Z (ex_var 0) (okP_len hd hk)) (ea_cons (ex_var 1) ea_nil)) ⟨t, e, _, rfl, he, lo, rfl, rfl⟩ (proj_same ⟨trivial, loL1 he.lo⟩ lo trivial) rfl))) (by rw [hk2]; rfl) rfl) (fun q => by cases q) (fun _ => bx_nil (fin_d00 lo rfl)))
  | @no2 _ s t d e hd he lo hk hk2 =>
    show BX _ [some s, some t] M (defBody s_need_same) _
    refine bx_cons (sx_expr (ex_callX (List.range M.length) F (ea_cons (ex_var 0) ea_nil) (.ok hd lo hk) (proj_same (loL1 hd.lo) lo trivial) rfl) ?_)
    refine bx_one (sx_if (q := true) (M1 := M) (et_to (et_not (et_val (ex_call (List.range M.length) G (ea_cons (ex_len Z (ex_var 0) (okP_len hd hk)) (ea_cons (ex_var 1) ea_nil)) ⟨t, e, _, rfl, he, lo, rfl, rfl⟩ (proj_same ⟨trivial, loL1 he.lo⟩ lo trivial) rfl))) (by rw [hk2]; rfl) rfl) (fun _ => ?_) (fun q => by cases q))
    exact bx_one (sx_raiseV B.xP px_csX B.qP B.tP (ex_var 1) (Nat.le_refl _) (loMs_up lo) he.lo ⟨rfl, finX_xd lo he.lo⟩)
inductive RneedZ (CN : Addr) : Rx
  | ok {d : PyData} : PL.whole d 1 24 = true → RneedZ CN [.d d] [] (.val (.d .none)) []
  | no {d : PyData} : PL.whole d 1 24 = false → RneedZ CN [.d d] [] (.exc CN 0) [.xd [("value", .d d)]]
theorem sc_need_size : FnScope ["size"] ["size"] (defScope s_need_size) := ⟨rfl, rfl, rfl, by decide +kernel, rfl, by decide +kernel, by decide +kernel⟩
theorem ok_need_size {m : Ms} {CP CN : Addr} (B : XB m CP CN) (hP : GI m.mg "MOST_PLACES" 24) (F : FnD m 1 "is_whole" ["thing", "least", "most"] Rwhole) (h : HasD m "need_size" s_need_size ["size"]) : FnX m 3 "need_size" ["size"] (RneedZ CN) := by
  refine fnX_of h sc_need_size (by decide) ?_
  intro args M o M' _ R
  cases R with
  | @ok d hk =>
    show BX _ [some (.d d)] [] (defBody s_need_size) _
    exact bx_one (sx_if (q := false) (M1 := []) (et_to (et_not (et_val (ex_call [] F (ea_cons (ex_var 0) (ea_cons ex_int (ea_cons (ex_globI hP) ea_nil))) ⟨d, 1, 24, rfl, rfl, rfl, rfl⟩ (proj_d (ds := [d, .int 1, .int 24])) rfl))) (by rw [hk]; rfl) rfl) (fun q => by cases q) (fun _ => bx_nil (fin_d00 (M := []) trivial rfl)))
  | @no d hk =>
    show BX _ [some (.d d)] [] (defBody s_need_size) _
    refine bx_one (sx_if (q := true) (M1 := []) (et_to (et_not (et_val (ex_call [] F (ea_cons (ex_var 0) (ea_cons ex_int (ea_cons (ex_globI hP) ea_nil))) ⟨d, 1, 24, rfl, rfl, rfl, rfl⟩ (proj_d (ds := [d, .int 1, .int 24])) rfl))) (by rw [hk]; rfl) rfl) (fun _ => ?_) (fun q => by cases q))
    exact bx_one (sx_raiseV (r := .d d) B.xN px_csX B.qN B.tN (ex_var 0) (Nat.le_refl _) trivial trivial ⟨rfl, finX_xd (M := []) (s := .d d) trivial trivial⟩)
end K

namespace K
open PySem PySem.Spec PyProof.Rows L2 DL DX PL
theorem sc_own_then : FnScope ["one", "other", "place"] ["one", "other"] (defScope s_own_then) := ⟨rfl, rfl, rfl, by decide +kernel, rfl, by decide +kernel, by decide +kernel⟩
def Rthen0 : Rl := fun args M r M' => ∃ (p q : List Nat) (b : Bool), args = [.d (tN p), .d (tN q)] ∧ (∀ x ∈ p, x < q.length) ∧ p.length < 1000000 ∧ M = [] ∧ r = .q b (dN (thenL p q)) ∧ M' = []
theorem ok_own_then {m : Ms} (Z : Std m.mg) (h : HasD m "own_then" s_own_then ["one", "other"]) : FnD m 1 "own_then" ["one", "other"] Rthen0 := by
  refine fnD_of h sc_own_then (by decide) ?_
  rintro args M r M' - ⟨p, q, b, rfl, hlt, hl, rfl, rfl, rfl⟩
  show BX _ [some (.d (tN p)), some (.d (tN q)), none] [] (defBody s_own_then) _
  refine bx_one (sx_ret (r := .q b (dN (thenL p q))) (M1 := [.lst (sN (thenL p q))]) (ex_tuple1 b (k := 0) (m := .lst (sN (thenL p q))) Z (ex_to (ex_lcA (W := []) (ss := sN p) (fun s => match s with | .d (.int i) => .d (.int (at0 q i.toNat : Nat)) | _ => .d .none) [("place", 2)] (ix_tup' (ex_var 0) (show Items (S.d (tN p)) (sN p) from rfl)) (fun _ => trivial) (by rw [sN_len]; exact hl) trivial ?_ ?_) rfl ?_) rfl rfl) ?_)
  · intro s hs
    obtain ⟨d, hd, rfl⟩ := List.mem_map.mp hs
    obtain ⟨x, _, rfl⟩ := List.mem_map.mp hd
    trivial
  · intro s hs acc
    obtain ⟨d, hd, rfl⟩ := List.mem_map.mp hs
    obtain ⟨x, hx, rfl⟩ := List.mem_map.mp hd
    exact ⟨_, gw_name 2, ex_ixT (s := .d (.int (at0 q x : Nat))) (ex_var 1) (ex_var 2) (show Items (S.d (tN q)) (sN q) from rfl) (sN_at (hlt x hx))⟩
  · show [] ++ [MO.lst _] = _
    rw [sN_map (f := at0 q) (fun x => rfl)]
    rfl
  · exact fin_lo (Nat.zero_le _) rfl trivial trivial
theorem sc_own_back : FnScope ["perm", "found", "place", "later"] ["perm"] (defScope s_own_back) := ⟨rfl, rfl, rfl, by decide +kernel, rfl, by decide +kernel, by decide +kernel⟩
def Rback0 : Rl := fun args M r M' => ∃ (p : List Nat) (b : Bool), args = [.d (tN p)] ∧ (∀ x ∈ p, x < p.length) ∧ p.length < 1000000 ∧ M = [] ∧ r = .q b (dN (backL p)) ∧ M' = []
theorem ok_own_back {m : Ms} (Z : Std m.mg) (h : HasD m "own_back" s_own_back ["perm"]) : FnD m 1 "own_back" ["perm"] Rback0 := by
  refine fnD_of h sc_own_back (by decide) ?_
  rintro args M r M' - ⟨p, b, rfl, hlt, hl, rfl, rfl, rfl⟩
  show BX _ [some (.d (tN p)), none, none, none] [] (defBody s_own_back) _
  have hi : Items (.d (tN p)) (sN p) := rfl
  refine bx_cons (sx_set 1 (r := .p 1) (M1 := [.lst (sN [0]), .lst (sN (backN p 0))]) (ex_to (ex_bin (ex_list (ea_cons ex_int ea_nil) (Nat.le_of_ble_eq_true rfl)) (ex_len Z (ex_var 0) (.tup hi)) (os_rep (k := 0) (xs := [.d (.int 0)]) rfl ?_ ?_ ?_)) rfl ?_) ?_)
  · omega
  · rw [sN_len]
    omega
  · rw [sN_len]
    simp
    omega
  · show [MO.lst [S.d (.int 0)]] ++ [MO.lst (List.replicate (((sN p).length : Nat) : Int).toNat [S.d (.int 0)]).flatten] = _
    rw [sN_len, Int.toNat_natCast, rep1]
    rw [show List.replicate p.length (S.d (.int 0)) = sN (List.replicate p.length 0) from sN_rep p.length 0]
    rfl
  · refine bx_cons (sx_for (ix_enumT (ex_var 0) hi Z.enum) (fun k Γ M => ∃ z1 z2, Γ = [some (.d (tN p)), some (.p 1), z1, z2] ∧ M = [.lst (sN [0]), .lst (sN (backN p k))]) ⟨_, Fg.refl _, none, none, rfl, rfl⟩ (fun _ _ _ _ _ => trivial) ?_ ?_)
    · rintro k Γ M hk ⟨z1, z2, rfl, rfl⟩
      rw [sN_len] at hk
      have e : mkT [S.d (.int (k : Nat)), (sN p).getD k (.d .none)] = .d (.tuple [.int k, .int (at0 p k)]) := by
        rw [List.getD, sN_get (at0_get hk)]
        rfl
      rw [e]
      refine ⟨_, _, gx_tup rfl (gxs_cons (gx_name 2) (gxs_cons (gx_name 3) gxs_nil)), ?_⟩
      refine bx_one (sx_asg (ex_var 2) (gx_subL (k := 1) (i := (at0 p k : Nat)) (n := at0 p k) (ss := sN (backN p k)) (ex_var 1) (ex_var 3) rfl (ixN_nat (by rw [sN_len, backN_len]; exact hlt _ (at0_mem hk)))) ?_)
      refine nxt_of (n := 2) (Γ' := [some (.d (tN p)), some (.p 1), none, none]) (M' := [.lst (sN [0]), .lst (sN (backN p (k + 1)))]) (Nat.le_refl _) ?_ ⟨sN_lo _ _, sN_lo _ _, trivial⟩ ⟨rfl, rfl, trivial⟩ ⟨trivial, Nat.lt_succ_self 1, trivial⟩ ⟨none, none, rfl, rfl⟩
      rw [backN_succ, ← sN_set]
      rfl
    · rintro Γ M ⟨z1, z2, rfl, rfl⟩
      rw [sN_len]
      exact bx_one (sx_ret (ex_tuple1 b (k := 1) (m := .lst (sN (backN p p.length))) Z (ex_var 1) rfl rfl) (fin_lo (Nat.zero_le _) rfl trivial trivial))
theorem sc_own_identity : FnScope ["size"] ["size"] (defScope s_own_identity) := ⟨rfl, rfl, rfl, by decide +kernel, rfl, by decide +kernel, by decide +kernel⟩
def Rid0 : Rl := fun args M r M' => ∃ (n : Nat) (b : Bool), args = [.d (.int n)] ∧ n ≤ 1000000 ∧ M = [] ∧ r = .q b (dN (List.range n)) ∧ M' = []
theorem ok_own_identity {m : Ms} (Z : Std m.mg) (h : HasD m "own_identity" s_own_identity ["size"]) : FnD m 1 "own_identity" ["size"] Rid0 := by
  refine fnD_of h sc_own_identity (by decide) ?_
  rintro args M r M' - ⟨n, b, rfl, hl, rfl, rfl, rfl⟩
  show BX _ [some (.d (.int n))] [] (defBody s_own_identity) _
  exact bx_one (sx_ret (ex_tupRg b Z (ex_var 0) (by omega)) (fin_lo (Nat.zero_le _) rfl trivial trivial))
/-! ### the same, with the arguments looked at -/
inductive Rthen (CP : Addr) : Rx
  | ok {M : Sto} {s t : S} {p q : List Nat} (b : Bool) : Dt M s (tN p) → Dt M t (tN q) → loMs 0 M → okP (tN p) = true → okPn p.length (tN q) = true → Rthen CP [s, t] M (.val (.q b (dN (thenL p q)))) M
  | no1 {M : Sto} {s t : S} {d e : PyData} : Dt M s d → Dt M t e → loMs 0 M → okP d = false → Rthen CP [s, t] M (.exc CP M.length) (M ++ [.xd [("value", s)]])
  | no2 {M : Sto} {s t : S} {d e : PyData} : Dt M s d → Dt M t e → loMs 0 M → okP d = true → okPn (lenD d) e = false → Rthen CP [s, t] M (.exc CP M.length) (M ++ [.xd [("value", t)]])
theorem sc_then : FnScope ["one", "other"] ["one", "other"] (defScope s_then) := ⟨rfl, rfl, rfl, by decide +kernel, rfl, by decide +kernel, by decide +kernel⟩
theorem lenD_tN (p : List Nat) : lenD (tN p) = p.length := List.length_map ..
theorem fin_q0 {M T : Sto} {b : Bool} {ds : List PyData} (h : loMs 0 M) : Fin M.length (.q b ds) (M ++ T) (.q b ds) M :=
  fin_lo (by rw [List.length_append]; exact Nat.le_add_right _ _) (by simp) (loMs_up h) trivial
theorem fin_q00 {M : Sto} {b : Bool} {ds : List PyData} (h : loMs 0 M) : Fin M.length (.q b ds) M (.q b ds) M := by
  have := fin_q0 (T := []) (b := b) (ds := ds) h
  rwa [List.append_nil] at this
/-- data in, a tuple out -/
theorem proj_q {ds : List PyData} {b : Bool} {es : List PyData} {M : Sto} : Proj [] (ds.map S.d) M (ds.map S.d) [] (.q b es) [] (.q b es) M where
  nd := List.nodup_nil
  lt := fun _ h => by cases h
  args := Rens.data _ _
  mc := rfl
  mi := fun i k m e => by simp at e
  len := Nat.le_refl _
  len' := by simp
  r := .q b es
  old := fun _ _ _ => rfl
  back := fun i m j e => by simp at e
theorem ok_then {m : Ms} {CP : Addr} (F : FnX m 4 "need_same" ["one", "other"] (RneedS CP)) (G : FnD m 1 "own_then" ["one", "other"] Rthen0) (h : HasD m "then" s_then ["one", "other"]) : FnX m 5 "then" ["one", "other"] (Rthen CP) := by
  refine fnX_of h sc_then (by decide) ?_
  intro args M o M' _ R
  cases R with
  | @no1 _ s t d e hd he lo hk =>
    show BX _ [some s, some t] M (defBody s_then) _
    exact bx_cons (sx_exprR (er_call (List.range M.length) F (ea_cons (ex_var 0) (ea_cons (ex_var 1) ea_nil)) (.no1 hd he lo hk) (proj_all (loL2 hd.lo he.lo) (loMs_up lo) (by simp) (loMs_xd lo hd.lo) (by simp [loS])) rfl) ⟨rfl, finX_xd lo hd.lo⟩)
  | @no2 _ s t d e hd he lo hk hk2 =>
    show BX _ [some s, some t] M (defBody s_then) _
    exact bx_cons (sx_exprR (er_call (List.range M.length) F (ea_cons (ex_var 0) (ea_cons (ex_var 1) ea_nil)) (.no2 hd he lo hk hk2) (proj_all (loL2 hd.lo he.lo) (loMs_up lo) (by simp) (loMs_xd lo he.lo) (by simp [loS])) rfl) ⟨rfl, finX_xd lo he.lo⟩)
  | @ok _ s t p q b hd he lo hk hk2 =>
    show BX _ [some s, some t] M (defBody s_then) _
    obtain ⟨hp, hp24⟩ := okP_tN.mp hk
    have hk2' := hk2
    simp only [okPn, Bool.and_eq_true, decide_eq_true_eq, lenD_tN] at hk2'
    have hpq : q.length = p.length := by have := hk2'.2; omega
    refine bx_cons (sx_expr (ex_callX (List.range M.length) F (ea_cons (ex_var 0) (ea_cons (ex_var 1) ea_nil)) (.ok hd he lo hk (by rw [lenD_tN]; exact hk2)) (proj_same (loL2 hd.lo he.lo) lo trivial) rfl) ?_)
    exact bx_one (sx_ret (ex_call [] G (ea_cons (ex_dt (ex_var 0) hd) (ea_cons (ex_dt (ex_var 1) he) ea_nil)) ⟨p, q, b, rfl, fun x hx => by rw [hpq]; exact hp.lt x hx, by omega, rfl, rfl, rfl⟩ (proj_q (ds := [tN p, tN q])) rfl) (fin_q00 lo))
inductive Rback (CP : Addr) : Rx
  | ok {M : Sto} {s : S} {p : List Nat} (b : Bool) : Dt M s (tN p) → loMs 0 M → okP (tN p) = true → Rback CP [s] M (.val (.q b (dN (backL p)))) M
  | no {M : Sto} {s : S} {d : PyData} : Dt M s d → loMs 0 M → okP d = false → Rback CP [s] M (.exc CP M.length) (M ++ [.xd [("value", s)]])
theorem sc_back : FnScope ["perm"] ["perm"] (defScope s_back) := ⟨rfl, rfl, rfl, by decide +kernel, rfl, by decide +kernel, by decide +kernel⟩
theorem ok_back {m : Ms} {CP : Addr} (F : FnX m 3 "need_perm" ["perm"] (RneedP CP)) (G : FnD m 1 "own_back" ["perm"] Rback0) (h : HasD m "back" s_back ["perm"]) : FnX m 4 "back" ["perm"] (Rback CP) := by
  refine fnX_of h sc_back (by decide) ?_
  intro args M o M' _ R
  cases R with
  | @no _ s d hd lo hk =>
    show BX _ [some s] M (defBody s_back) _
    exact bx_cons (sx_exprR (er_call (List.range M.length) F (ea_cons (ex_var 0) ea_nil) (.no hd lo hk) (proj_all (loL1 hd.lo) (loMs_up lo) (by simp) (loMs_xd lo hd.lo) (by simp [loS])) rfl) ⟨rfl, finX_xd lo hd.lo⟩)
  | @ok _ s p b hd lo hk =>
    show BX _ [some s] M (defBody s_back) _
    obtain ⟨hp, hp24⟩ := okP_tN.mp hk
    refine bx_cons (sx_expr (ex_callX (List.range M.length) F (ea_cons (ex_var 0) ea_nil) (.ok hd lo hk) (proj_same (loL1 hd.lo) lo trivial) rfl) ?_)
    exact bx_one (sx_ret (ex_call [] G (ea_cons (ex_dt (ex_var 0) hd) ea_nil) ⟨p, b, rfl, hp.lt, by omega, rfl, rfl, rfl⟩ (proj_q (ds := [tN p])) rfl) (fin_q00 lo))
inductive Rid (CN : Addr) : Rx
  | ok {n : Nat} (b : Bool) : 1 ≤ n → n ≤ 24 → Rid CN [.d (.int n)] [] (.val (.q b (dN (List.range n)))) []
  | no {d : PyData} : whole d 1 24 = false → Rid CN [.d d] [] (.exc CN 0) [.xd [("value", .d d)]]
theorem sc_identity : FnScope ["size"] ["size"] (defScope s_identity) := ⟨rfl, rfl, rfl, by decide +kernel, rfl, by decide +kernel, by decide +kernel⟩
theorem ok_identity {m : Ms} {CN : Addr} (F : FnX m 3 "need_size" ["size"] (RneedZ CN)) (G : FnD m 1 "own_identity" ["size"] Rid0) (h : HasD m "identity" s_identity ["size"]) : FnX m 4 "identity" ["size"] (Rid CN) := by
  refine fnX_of h sc_identity (by decide) ?_
  intro args M o M' _ R
  cases R with
  | @no d hk =>
    show BX _ [some (.d d)] [] (defBody s_identity) _
    exact bx_cons (sx_exprR (er_call [] F (ea_cons (ex_var 0) ea_nil) (.no hk) (proj_x (ds := [d])) rfl) ⟨rfl, finX_xd (M := []) (s := .d d) trivial trivial⟩)
  | @ok n b h1 h2 =>
    show BX _ [some (.d (.int n))] [] (defBody s_identity) _
    refine bx_cons (sx_expr (ex_callX [] F (ea_cons (ex_var 0) ea_nil) (.ok (by simp [whole]; omega)) (proj_d (ds := [.int n])) rfl) ?_)
    exact bx_one (sx_ret (ex_call [] G (ea_cons (ex_var 0) ea_nil) ⟨n, b, rfl, by omega, rfl, rfl, rfl⟩ (proj_q (ds := [.int n])) rfl) (fin_q00 (M := []) trivial))
end K

namespace K
open PySem PySem.Spec PyProof.Rows L2 DL DX PL
inductive Rpower (CP CN : Addr) : Rx
  | ok {M : Sto} {s : S} {p : List Nat} {t : Int} (b : Bool) : Dt M s (tN p) → loMs 0 M → okP (tN p) = true → -1000000 ≤ t → t ≤ 1000000 → Rpower CP CN [s, .d (.int t)] M (.val (.q b (dN (powL p t)))) M
  | no1 {M : Sto} {s : S} {d e : PyData} : Dt M s d → loMs 0 M → okP d = false → Rpower CP CN [s, .d e] M (.exc CP M.length) (M ++ [.xd [("value", s)]])
  | no2 {M : Sto} {s : S} {d e : PyData} : Dt M s d → loMs 0 M → okP d = true → whole e (-1000000) 1000000 = false → Rpower CP CN [s, .d e] M (.exc CN M.length) (M ++ [.xd [("value", .d e)]])
theorem sc_power : FnScope ["perm", "times", "step", "left", "found"] ["perm", "times"] (defScope s_power) := ⟨rfl, rfl, rfl, by decide +kernel, rfl, by decide +kernel, by decide +kernel⟩
theorem step_isP {p : List Nat} (h : IsP p) (t : Int) : IsP (stepP p t) ∧ (stepP p t).length = p.length := by
  unfold stepP
  split
  · exact ⟨h, rfl⟩
  · exact ⟨h.back, backL_len p⟩
theorem ok_power {m : Ms} {CP CN : Addr} (Z : Std m.mg) (B : XB m CP CN) (hT : GI m.mg "MOST_TIMES" 1000000) (F : FnX m 3 "need_perm" ["perm"] (RneedP CP)) (W : FnD m 1 "is_whole" ["thing", "least", "most"] Rwhole)
    (Gt : FnD m 1 "own_then" ["one", "other"] Rthen0) (Gb : FnD m 1 "own_back" ["perm"] Rback0) (Gi : FnD m 1 "own_identity" ["size"] Rid0) (h : HasD m "power" s_power ["perm", "times"]) : FnX m 4 "power" ["perm", "times"] (Rpower CP CN) := by
  refine fnX_of h sc_power (by decide) ?_
  intro args M o M' _ R
  cases R with
  | @no1 _ s d e hd lo hk =>
    show BX _ [some s, some (.d e), none, none, none] M (defBody s_power) _
    exact bx_cons (sx_exprR (er_call (List.range M.length) F (ea_cons (ex_var 0) ea_nil) (.no hd lo hk) (proj_all (loL1 hd.lo) (loMs_up lo) (by simp) (loMs_xd lo hd.lo) (by simp [loS])) rfl) ⟨rfl, finX_xd lo hd.lo⟩)
  | @no2 _ s d e hd lo hk hw =>
    show BX _ [some s, some (.d e), none, none, none] M (defBody s_power) _
    refine bx_cons (sx_expr (ex_callX (List.range M.length) F (ea_cons (ex_var 0) ea_nil) (.ok hd lo hk) (proj_same (loL1 hd.lo) lo trivial) rfl) ?_)
    refine bx_cons (sx_if (q := true) (M1 := M) (et_to (et_not (et_val (ex_call [] W (ea_cons (ex_var 1) (ea_cons (ex_bin ex_int (ex_globI hT) os_sub) (ea_cons (ex_globI hT) ea_nil))) ⟨e, 0 - 1000000, 1000000, rfl, rfl, rfl, rfl⟩ (proj_d (ds := [e, .int (0 - 1000000), .int 1000000])) rfl))) (by rw [show (0 : Int) - 1000000 = -1000000 from rfl, hw]; rfl) rfl) (fun _ => ?_) (fun q => by cases q))
    exact bx_one (sx_raiseV (r := .d e) B.xN px_csX B.qN B.tN (ex_var 1) (Nat.le_refl _) (loMs_up lo) trivial ⟨rfl, finX_xd (s := .d e) lo trivial⟩)
  | @ok _ s p t b hd lo hk h0 h1 =>
    show BX _ [some s, some (.d (.int t)), none, none, none] M (defBody s_power) _
    obtain ⟨hp, hp24⟩ := okP_tN.mp hk
    have hw : whole (.int t) (-1000000) 1000000 = true := by simp [whole, h0, h1]
    refine bx_cons (sx_expr (ex_callX (List.range M.length) F (ea_cons (ex_var 0) ea_nil) (.ok hd lo hk) (proj_same (loL1 hd.lo) lo trivial) rfl) ?_)
    refine bx_cons (sx_if (q := false) (M1 := M) (et_to (et_not (et_val (ex_call [] W (ea_cons (ex_var 1) (ea_cons (ex_bin ex_int (ex_globI hT) os_sub) (ea_cons (ex_globI hT) ea_nil))) ⟨.int t, 0 - 1000000, 1000000, rfl, rfl, rfl, rfl⟩ (proj_d (ds := [.int t, .int (0 - 1000000), .int 1000000])) rfl))) (by rw [show (0 : Int) - 1000000 = -1000000 from rfl, hw]; rfl) rfl) (fun q => by cases q) (fun _ => bx_nil ?_))
    obtain ⟨hs, hsl⟩ := step_isP hp t
    generalize hg : at0 (stepP p t) = g
    have hlt : ∀ k x, x < p.length → itr g k x < p.length := fun k x hx => by
      rw [← hg, ← hsl]
      exact itr_lt hs (by rw [hsl]; exact hx) k
    have hst : pw g p.length 1 = stepP p t := by rw [← hg, ← hsl]; exact pw_one _
    have habs : (if t < 0 then -t else t) = (t.natAbs : Int) := by split <;> omega
    have hitem : Ln M s p.length := by
      have := okP_len hd hk
      rwa [lenD_tN] at this
    refine bx_cons (sx_par3 2 3 4 (x := .d (tN (pw g p.length 1))) (y := .d (.int (t.natAbs : Int))) (z := .q b (dN (List.range p.length))) (M1 := M) (ea_cons (M1 := M) ?_ (ea_cons (M1 := M) ?_ (ea_cons (M1 := M) ?_ ea_nil))) ?_ (hw := ?_))
    · rw [hst]
      refine ex_if (q := decide (0 ≤ t)) (M1 := M) (et_cmp (ex_var 1) ex_int os_ge (nomark _)) (fun q => ?_) (fun q => ?_)
      · have q' := of_decide_eq_true q
        unfold stepP
        rw [if_pos q']
        exact ex_dt (ex_var 0) hd
      · have q' := of_decide_eq_false q
        unfold stepP
        rw [if_neg q']
        exact ex_q (ex_call [] Gb (ea_cons (ex_dt (ex_var 0) hd) ea_nil) ⟨p, true, rfl, hp.lt, by omega, rfl, rfl, rfl⟩ (proj_q (ds := [tN p])) rfl)
    · rw [← habs]
      exact ex_abs Z (ex_var 1)
    · exact ex_call [] Gi (ea_cons (ex_len Z (ex_var 0) hitem) ea_nil) ⟨p.length, b, rfl, by omega, rfl, rfl, rfl⟩ (proj_q (ds := [.int (p.length : Nat)])) rfl
    · refine bx_cons (sx_while (fun k Γ M1 => ∃ a c : Nat, a + c * k = t.natAbs ∧ Γ = [some s, some (.d (.int t)), some (.d (tN (pw g p.length c))), some (.d (.int (k : Nat))), some (.q b (dN (pw g p.length a)))] ∧ M1 = M) ⟨t.natAbs, _, Fg.refl _, 0, 1, by omega, by rw [pw_zero]; rfl, rfl⟩ ?_)
      rintro k Γ M1 ⟨a, c, hac, rfl, rfl⟩
      refine ⟨decide (0 < (k : Int)), M1, et_cmp (ex_var 3) ex_int os_gt (nomark _), fun q => ?_, fun q => ?_⟩
      · have hk0 : 0 < k := by have := of_decide_eq_true q; omega
        have nxt : ∀ a' : Nat, a' + (c + c) * (k / 2) = t.natAbs → Nxt M1.length (fun Γ' M' => ∃ m', m' < k ∧ ∃ a c : Nat, a + c * m' = t.natAbs ∧ Γ' = [some s, some (.d (.int t)), some (.d (tN (pw g p.length c))), some (.d (.int (m' : Nat))), some (.q b (dN (pw g p.length a)))] ∧ M' = M1) [some s, some (.d (.int t)), some (.d (tN (pw g p.length (c + c)))), some (.d (.int ((k / 2 : Nat) : Int))), some (.q b (dN (pw g p.length a')))] M1 := fun a' ha' =>
          nxt_of (Γ' := [some s, some (.d (.int t)), some (.d (tN (pw g p.length (c + c)))), some (.d (.int ((k / 2 : Nat) : Int))), some (.q b (dN (pw g p.length a')))]) (M' := M1) (Nat.le_refl _) List.take_length (loMs_up lo) ⟨rfl, rfl, rfl, rfl, rfl, trivial⟩ ⟨hd.lo, trivial, trivial, trivial, trivial, trivial⟩ ⟨k / 2, by omega, a', c + c, ha', rfl, rfl⟩
        have tail : ∀ (a' : Nat) (N : Nd), N.nx [some s, some (.d (.int t)), some (.d (tN (pw g p.length (c + c)))), some (.d (.int ((k / 2 : Nat) : Int))), some (.q b (dN (pw g p.length a')))] M1 → BX (m.csX ["perm", "times", "step", "left", "found"] (defScope s_power) 3) [some s, some (.d (.int t)), some (.d (tN (pw g p.length c))), some (.d (.int (k : Nat))), some (.q b (dN (pw g p.length a')))] M1 [(whileBody ((defBody s_power).getD 3 (.Pass ⟨0, 0, 0, 0⟩))).getD 1 (.Pass ⟨0, 0, 0, 0⟩)] N := fun a' N hN => by
          refine bx_one (sx_par 2 3 (x := .d (tN (pw g p.length (c + c)))) (y := .d (.int ((k / 2 : Nat) : Int))) (M1 := M1) (ea_cons (M1 := M1) (ex_to (ex_q (ex_call [] Gt (ea_cons (ex_var 2) (ea_cons (ex_var 2) ea_nil)) ⟨pw g p.length c, pw g p.length c, true, rfl, fun x hx => by rw [pw_len]; exact pw_mem hlt c x hx, by rw [pw_len]; omega, rfl, rfl, rfl⟩ (proj_q (ds := [tN (pw g p.length c), tN (pw g p.length c)])) rfl)) (by rw [pw_then hlt]; rfl) rfl) (ea_cons (M1 := M1) (ex_to (ex_bin (ex_var 3) ex_int (os_div ⟨by decide, by decide⟩)) ?_ rfl) ea_nil)) hN (hw := ?_))
          · congr 2
          · intro env he
            cases env
            cases he
            rfl
        refine bx_cons (sx_if (q := decide (((k : Nat) : Int) % 2 = 1)) (M1 := M1) (et_cmp (ex_bin (ex_var 3) ex_int (os_mod (by decide))) ex_int os_eqI (nomark _)) (fun q => ?_) (fun q => bx_nil ?_))
        · have q' := of_decide_eq_true q
          refine bx_one (sx_set 4 (r := .q b (dN (pw g p.length (a + c)))) (M1 := M1) (ex_to (ex_call [] Gt (ea_cons (ex_q (ex_var 4)) (ea_cons (ex_var 2) ea_nil)) ⟨pw g p.length a, pw g p.length c, b, rfl, fun x hx => by rw [pw_len]; exact pw_mem hlt a x hx, by rw [pw_len]; omega, rfl, rfl, rfl⟩ (proj_q (ds := [tN (pw g p.length a), tN (pw g p.length c)])) rfl) (by rw [pw_then hlt]) rfl) (tail (a + c) _ (nxt (a + c) ?_)))
          have e : k = 2 * (k / 2) + 1 := by omega
          have : a + c * (2 * (k / 2) + 1) = t.natAbs := by rw [← e]; exact hac
          rw [Nat.mul_add, Nat.mul_one] at this
          have e2 : c * (2 * (k / 2)) = (c + c) * (k / 2) := by rw [← Nat.mul_assoc]; congr 1; omega
          omega
        · have q' := of_decide_eq_false q
          refine tail a _ (nxt a ?_)
          have e : k = 2 * (k / 2) := by omega
          have : a + c * (2 * (k / 2)) = t.natAbs := by rw [← e]; exact hac
          have e2 : c * (2 * (k / 2)) = (c + c) * (k / 2) := by rw [← Nat.mul_assoc]; congr 1; omega
          omega
      · have hk0 : k = 0 := by have := of_decide_eq_false q; omega
        subst hk0
        have ha : a = t.natAbs := by omega
        subst ha
        refine bx_one (sx_ret (ex_var 4) ?_)
        have : pw g p.length t.natAbs = powL p t := by rw [← hg]; rfl
        rw [this]
        exact fin_q00 lo
    · intro env he
      cases env
      cases he
      rfl
end K

namespace K
open PySem PySem.Spec PyProof.Rows L2 DL DX PL
/-! ### the law's own -/
theorem sc_l_then : FnScope ["one", "other", "place"] ["one", "other"] (defScope s_l_then) := ⟨rfl, rfl, rfl, by decide +kernel, rfl, by decide +kernel, by decide +kernel⟩
theorem ok_l_then {m : Ms} (Z : Std m.mg) (h : HasD m "_law_then" s_l_then ["one", "other"]) : FnD m 1 "_law_then" ["one", "other"] Rthen0 := by
  refine fnD_of h sc_l_then (by decide) ?_
  rintro args M r M' - ⟨p, q, b, rfl, hlt, hl, rfl, rfl, rfl⟩
  show BX _ [some (.d (tN p)), some (.d (tN q)), none] [] (defBody s_l_then) _
  refine bx_one (sx_ret (r := .q b (dN (thenL p q))) (M1 := [.lst (sN (thenL p q))]) (ex_tuple1 b (k := 0) (m := .lst (sN (thenL p q))) Z (ex_to (ex_lcA (W := []) (ss := sN p) (fun s => match s with | .d (.int i) => .d (.int (at0 q i.toNat : Nat)) | _ => .d .none) [("place", 2)] (ix_tup' (ex_var 0) (show Items (S.d (tN p)) (sN p) from rfl)) (fun _ => trivial) (by rw [sN_len]; exact hl) trivial ?_ ?_) rfl ?_) rfl rfl) ?_)
  · intro s hs
    obtain ⟨d, hd, rfl⟩ := List.mem_map.mp hs
    obtain ⟨x, _, rfl⟩ := List.mem_map.mp hd
    trivial
  · intro s hs acc
    obtain ⟨d, hd, rfl⟩ := List.mem_map.mp hs
    obtain ⟨x, hx, rfl⟩ := List.mem_map.mp hd
    exact ⟨_, gw_name 2, ex_ixT (s := .d (.int (at0 q x : Nat))) (ex_var 1) (ex_var 2) (show Items (S.d (tN q)) (sN q) from rfl) (sN_at (hlt x hx))⟩
  · show [] ++ [MO.lst _] = _
    rw [sN_map (f := at0 q) (fun x => rfl)]
    rfl
  · exact fin_lo (Nat.zero_le _) rfl trivial trivial
theorem sc_l_back : FnScope ["perm", "place"] ["perm"] (defScope s_l_back) := ⟨rfl, rfl, rfl, by decide +kernel, rfl, by decide +kernel, by decide +kernel⟩
def Rl_back : Rl := fun args M r M' => ∃ (p : List Nat) (b : Bool), args = [.q true (dN p)] ∧ IsP p ∧ p.length < 1000000 ∧ M = [] ∧ r = .q b (dN (backL p)) ∧ M' = []
theorem ok_l_back {m : Ms} (Z : Std m.mg) (h : HasD m "_law_back" s_l_back ["perm"]) : FnD m 1 "_law_back" ["perm"] Rl_back := by
  refine fnD_of h sc_l_back (by decide) ?_
  rintro args M r M' - ⟨p, b, rfl, hp, hl, rfl, rfl, rfl⟩
  show BX _ [some (.q true (dN p)), none] [] (defBody s_l_back) _
  have hi : Ln ([] : Sto) (.q true (dN p)) p.length := by
    have := Ln.tup (M := ([] : Sto)) (s := .q true (dN p)) (ss := sN p) rfl
    rwa [sN_len] at this
  refine bx_one (sx_ret (r := .q b (dN (backL p))) (M1 := [.lst (sN (backL p))]) (ex_tuple1 b (k := 0) (m := .lst (sN (backL p))) Z (ex_to (ex_lcR (W := []) (n := p.length) (fun k => .d (.int (p.idxOf k : Nat))) [("place", 1)] (ix_range1 (ex_len Z (ex_var 0) hi) (by omega) (by omega) (hm := Z.range)) (fun _ => trivial) (by omega) trivial (fun _ _ => trivial) ?_) rfl ?_) rfl rfl) ?_)
  · intro k hk acc
    obtain ⟨h1, h2, h3⟩ := idx_at hp hk
    refine ⟨_, gw_name 1, ex_indexT (ns := zN p) (ex_to (ex_var 0) (by rw [dN_z]) rfl) (ex_var 1) ?_ fun m hm e => ?_⟩
    · rw [List.getElem?_map, h2]
      rfl
    · rw [List.getElem?_map] at e
      cases hg : p[m]? with
      | none =>
        rw [hg] at e
        cases e
      | some y =>
        rw [hg] at e
        have e' : ((y : Nat) : Int) = (k : Int) := Option.some.inj e
        exact h3 m hm (by rw [hg, show y = k from by omega])
  · show [] ++ [MO.lst _] = _
    rw [← lawBack_eq hp]
    simp [lawBack, sN, dN, Function.comp_def]
  · exact fin_lo (Nat.zero_le _) rfl trivial trivial
end K

namespace K
open PySem PySem.Spec PyProof.Rows L2 DL DX PL
/-! ### permutations drawn: plain -/
def dgN (st : St3) (b : Nat) : Nat := (dg st b).toNat
theorem dgN_lt {st : St3} {b : Nat} (h : 0 < b) : dgN st b < b ∧ dg st b = (dgN st b : Nat) := by
  have := dg_b st (b := (b : Int)) (by omega)
  unfold dgN
  omega
def drawP : Nat → St3 → List Nat → List Nat → St3 × List Nat
  | 0, st, _, fd => (st, fd)
  | k + 1, st, rest, fd => drawP k (nx st rest.length) (rest.eraseIdx (dgN st rest.length)) (fd ++ [at0 rest (dgN st rest.length)])
theorem erase_perm : ∀ (l : List Nat) (i : Nat) (h : i < l.length), (l[i] :: l.eraseIdx i).Perm l
  | a :: l, 0, _ => List.Perm.refl _
  | a :: l, i + 1, h => (List.Perm.swap a (l[i]'(Nat.lt_of_succ_lt_succ h)) (l.eraseIdx i)).trans (List.Perm.cons a (erase_perm l i (Nat.lt_of_succ_lt_succ h)))
theorem drawP_perm : ∀ (k : Nat) (st : St3) (rest fd : List Nat), rest.length = k → (drawP k st rest fd).2.Perm (fd ++ rest)
  | 0, st, rest, fd, h => by
    have : rest = [] := List.eq_nil_of_length_eq_zero h
    subst this
    rw [List.append_nil]
    exact List.Perm.refl _
  | k + 1, st, rest, fd, h => by
    have hi := (dgN_lt (st := st) (b := rest.length) (by omega)).1
    refine (drawP_perm k _ _ _ (by rw [List.length_eraseIdx_of_lt hi]; omega)).trans ?_
    rw [List.append_assoc]
    refine List.Perm.append_left _ ?_
    have e : at0 rest (dgN st rest.length) = rest[dgN st rest.length] := by simp [at0, List.getD, hi]
    rw [e]
    exact erase_perm rest _ hi
theorem drawP_t : ∀ (k : Nat) (st : St3) (rest fd : List Nat), st.t ≤ (drawP k st rest fd).1.t ∧ (drawP k st rest fd).1.t ≤ st.t + 4 * k
  | 0, st, rest, fd => by simp [drawP]
  | k + 1, st, rest, fd => by
    have h1 := nx_t st (rest.length : Int)
    have h2 := drawP_t k (nx st rest.length) (rest.eraseIdx (dgN st rest.length)) (fd ++ [at0 rest (dgN st rest.length)])
    show st.t ≤ (drawP k _ _ _).1.t ∧ (drawP k _ _ _).1.t ≤ st.t + 4 * ((k + 1 : Nat) : Int)
    omega
/-- one step along cyc, the others stay -/
def thereN (n : Nat) (cyc : List Nat) (k : Nat) : List Nat := (List.range k).foldl (fun t i => t.set (at0 cyc i) (at0 cyc ((i + 1) % cyc.length))) (List.range n)
theorem thereN_succ (n : Nat) (cyc : List Nat) (k : Nat) : thereN n cyc (k + 1) = (thereN n cyc k).set (at0 cyc k) (at0 cyc ((k + 1) % cyc.length)) := by
  unfold thereN
  rw [List.range_succ, List.foldl_append]
  rfl
theorem thereN_len (n : Nat) (cyc : List Nat) : ∀ k, (thereN n cyc k).length = n
  | 0 => by simp [thereN]
  | k + 1 => by rw [thereN_succ, List.length_set, thereN_len n cyc k]
theorem at0_set_ne {p : List Nat} {x y v : Nat} (h : x ≠ y) : at0 (p.set x v) y = at0 p y := by
  simp only [at0, List.getD, List.getElem?_set_ne h]
theorem at0_set_self {p : List Nat} {x v : Nat} (h : x < p.length) : at0 (p.set x v) x = v := at0_of (List.getElem?_set_self h)
theorem nodup_at {l : List Nat} (nd : l.Nodup) {i j : Nat} (hi : i < l.length) (hj : j < l.length) (e : at0 l i = at0 l j) : i = j := by
  have h1 : at0 l i = l[i] := by simp [at0, List.getD, hi]
  have h2 : at0 l j = l[j] := by simp [at0, List.getD, hj]
  rw [h1, h2] at e
  exact (List.getElem_inj nd).mp e
theorem thereN_in {n : Nat} {cyc : List Nat} (nd : cyc.Nodup) (hc : ∀ x ∈ cyc, x < n) : ∀ k, k ≤ cyc.length → ∀ i, i < k → at0 (thereN n cyc k) (at0 cyc i) = at0 cyc ((i + 1) % cyc.length)
  | 0, _, i, hi => absurd hi (Nat.not_lt_zero _)
  | k + 1, hk, i, hi => by
    rw [thereN_succ]
    by_cases e : i = k
    · subst e
      exact at0_set_self (by rw [thereN_len]; exact hc _ (at0_mem (by omega)))
    · rw [at0_set_ne fun z => e (nodup_at nd (by omega) (by omega) z.symm)]
      exact thereN_in nd hc k (by omega) i (by omega)
theorem thereN_out {n : Nat} {cyc : List Nat} {x : Nat} (hx : x < n) : ∀ k, k ≤ cyc.length → (∀ i, i < k → at0 cyc i ≠ x) → at0 (thereN n cyc k) x = x
  | 0, _, _ => by
    have := at0_range (f := id) hx
    simpa [thereN] using this
  | k + 1, hk, h => by
    rw [thereN_succ, at0_set_ne (h k (by omega))]
    exact thereN_out hx k (by omega) fun i hi => h i (by omega)
theorem isP_at {p : List Nat} (hn : 1 ≤ p.length) (h1 : ∀ x, x < p.length → at0 p x < p.length) (h2 : ∀ x y, x < p.length → y < p.length → at0 p x = at0 p y → x = y) : IsP p := by
  rw [as_range p]
  exact isP_of hn h1 h2
theorem thereN_isP {n : Nat} {cyc : List Nat} (hn : 1 ≤ n) (nd : cyc.Nodup) (hc : ∀ x ∈ cyc, x < n) : IsP (thereN n cyc cyc.length) := by
  have hl := thereN_len n cyc cyc.length
  have cas : ∀ x, x < n → (∃ i, i < cyc.length ∧ at0 cyc i = x ∧ at0 (thereN n cyc cyc.length) x = at0 cyc ((i + 1) % cyc.length)) ∨ ((∀ i, i < cyc.length → at0 cyc i ≠ x) ∧ at0 (thereN n cyc cyc.length) x = x) := fun x hx => by
    by_cases h : ∃ i, i < cyc.length ∧ at0 cyc i = x
    · obtain ⟨i, hi, rfl⟩ := h
      exact .inl ⟨i, hi, rfl, thereN_in nd hc _ (Nat.le_refl _) i hi⟩
    · have h' : ∀ i, i < cyc.length → at0 cyc i ≠ x := fun i hi e => h ⟨i, hi, e⟩
      exact .inr ⟨h', thereN_out hx _ (Nat.le_refl _) h'⟩
  refine isP_at (by rw [hl]; exact hn) (fun x hx => ?_) fun x y hx hy e => ?_
  · rw [hl] at hx ⊢
    rcases cas x hx with ⟨i, hi, _, e⟩ | ⟨_, e⟩
    · rw [e]
      exact hc _ (at0_mem (Nat.mod_lt _ (by omega)))
    · rw [e]
      exact hx
  · rw [hl] at hx hy
    rcases cas x hx with ⟨i, hi, ex, e1⟩ | ⟨h1, e1⟩ <;> rcases cas y hy with ⟨j, hj, ey, e2⟩ | ⟨h2, e2⟩
    · rw [e1, e2] at e
      have := nodup_at nd (Nat.mod_lt _ (by omega)) (Nat.mod_lt _ (by omega)) e
      have hij : i = j := by
        by_cases a : i + 1 = cyc.length
        · by_cases b : j + 1 = cyc.length
          · omega
          · rw [a, Nat.mod_self, Nat.mod_eq_of_lt (by omega)] at this
            omega
        · by_cases b : j + 1 = cyc.length
          · rw [b, Nat.mod_self, Nat.mod_eq_of_lt (by omega)] at this
            omega
          · rw [Nat.mod_eq_of_lt (by omega), Nat.mod_eq_of_lt (by omega)] at this
            omega
      rw [← ex, ← ey, hij]
    · rw [e1, e2] at e
      exact absurd e (h2 _ (Nat.mod_lt _ (by omega)))
    · rw [e1, e2] at e
      exact absurd e.symm (h1 _ (Nat.mod_lt _ (by omega)))
    · rw [e1, e2] at e
      exact e
theorem swap_isP {t : List Nat} (h : IsP t) {c d : Nat} (hc : c < t.length) (hd : d < t.length) (ec : at0 t c = c) (ed : at0 t d = d) : IsP ((t.set c d).set d c) := by
  have hl : ((t.set c d).set d c).length = t.length := by simp
  have f : ∀ x, x < t.length → at0 ((t.set c d).set d c) x = if x = d then c else if x = c then d else at0 t x := fun x hx => by
    by_cases h1 : x = d
    · subst h1
      rw [if_pos rfl]
      exact at0_set_self (by simpa using hx)
    · rw [if_neg h1, at0_set_ne (Ne.symm h1)]
      by_cases h2 : x = c
      · subst h2
        rw [if_pos rfl]
        exact at0_set_self hx
      · rw [if_neg h2, at0_set_ne (Ne.symm h2)]
  have inj : ∀ {x y}, x < t.length → y < t.length → at0 t x = at0 t y → x = y := fun hx hy e => h.inj hx hy e
  refine isP_at (by rw [hl]; exact h.pos) (fun x hx => ?_) fun x y hx hy e => ?_
  · rw [hl] at hx ⊢
    rw [f x hx]
    split
    · exact hc
    · split
      · exact hd
      · exact h.at hx
  · rw [hl] at hx hy
    rw [f x hx, f y hy] at e
    by_cases a1 : x = d
    · rw [if_pos a1] at e
      by_cases b1 : y = d
      · omega
      · rw [if_neg b1] at e
        by_cases b2 : y = c
        · rw [if_pos b2] at e
          omega
        · rw [if_neg b2] at e
          exact absurd (inj hc hy (by rw [ec, e])) (Ne.symm b2)
    · rw [if_neg a1] at e
      by_cases a2 : x = c
      · rw [if_pos a2] at e
        by_cases b1 : y = d
        · rw [if_pos b1] at e
          omega
        · rw [if_neg b1] at e
          by_cases b2 : y = c
          · omega
          · rw [if_neg b2] at e
            exact absurd (inj hd hy (by rw [ed, e])) (Ne.symm b1)
      · rw [if_neg a2] at e
        by_cases b1 : y = d
        · rw [if_pos b1] at e
          exact absurd (inj hx hc (by rw [ec, e])) a2
        · rw [if_neg b1] at e
          by_cases b2 : y = c
          · rw [if_pos b2] at e
            exact absurd (inj hx hd (by rw [ed, e])) a1
          · rw [if_neg b2] at e
            exact inj hx hy e
def kB (n : Nat) : Nat := if n - 1 < 4 then n - 1 else 4
def permF (st : St3) (n : Nat) : St3 × List Nat :=
  let d := drawP n (nx st 3) (List.range n) []
  if dg st 3 = 0 ∨ n < 4 then d
  else if dg st 3 = 1 then (nx d.1 (kB n : Nat), thereN n (d.2.take (2 + dgN d.1 (kB n))) (d.2.take (2 + dgN d.1 (kB n))).length)
  else (d.1, ((thereN n (d.2.take 2) 2).set (at0 d.2 2) (at0 d.2 3)).set (at0 d.2 3) (at0 d.2 2))
theorem drawP_isP {n : Nat} (hn : 1 ≤ n) (st : St3) : IsP (drawP n st (List.range n) []).2 ∧ (drawP n st (List.range n) []).2.length = n := by
  have hp := drawP_perm n st (List.range n) [] (by simp)
  rw [List.nil_append] at hp
  have hl : (drawP n st (List.range n) []).2.length = n := by rw [hp.length_eq, List.length_range]
  exact ⟨⟨by rw [hl]; exact hn, fun x hx => by rw [hl]; exact List.mem_range.mp (hp.mem_iff.mp hx), hp.nodup_iff.mpr List.nodup_range⟩, hl⟩
theorem take_at {p : List Nat} {k i : Nat} (h : i < k) : at0 (p.take k) i = at0 p i := by
  simp only [at0, List.getD, List.getElem?_take, if_pos h]
theorem permF_isP {n : Nat} (hn : 1 ≤ n) (st : St3) : IsP (permF st n).2 ∧ (permF st n).2.length = n := by
  obtain ⟨h1, h2⟩ := drawP_isP hn (nx st 3)
  unfold permF
  generalize drawP n (nx st 3) (List.range n) [] = d at h1 h2
  dsimp only
  by_cases c1 : dg st 3 = 0 ∨ n < 4
  · rw [if_pos c1]
    exact ⟨h1, h2⟩
  · rw [if_neg c1]
    have hsub : ∀ k, (d.2.take k).Nodup ∧ ∀ x ∈ d.2.take k, x < n := fun k => ⟨h1.nd.sublist (List.take_sublist _ _), fun x hx => by rw [← h2]; exact h1.lt x (List.mem_of_mem_take hx)⟩
    by_cases c2 : dg st 3 = 1
    · rw [if_pos c2]
      exact ⟨thereN_isP hn (hsub _).1 (hsub _).2, thereN_len _ _ _⟩
    · rw [if_neg c2]
      have h4 : 4 ≤ n := by omega
      have hl2 : (d.2.take 2).length = 2 := by rw [List.length_take]; omega
      have ht := thereN_isP hn (hsub 2).1 (hsub 2).2
      rw [hl2] at ht
      have htl := thereN_len n (d.2.take 2) 2
      have lt : ∀ i, i < 4 → at0 d.2 i < n := fun i hi => by rw [← h2]; exact h1.lt _ (at0_mem (by omega))
      have out : ∀ i, 2 ≤ i → i < 4 → at0 (thereN n (d.2.take 2) 2) (at0 d.2 i) = at0 d.2 i := fun i hi hi4 => thereN_out (lt i hi4) 2 (by omega) fun j hj e => by
        rw [take_at hj] at e
        have := h1.inj (x := j) (y := i) (by omega) (by omega) e
        omega
      exact ⟨swap_isP ht (by rw [htl]; exact lt 2 (by omega)) (by rw [htl]; exact lt 3 (by omega)) (out 2 (by omega) (by omega)) (out 3 (by omega) (by omega)), by simp [htl]⟩
theorem permF_t (st : St3) (n : Nat) : st.t ≤ (permF st n).1.t ∧ (permF st n).1.t ≤ st.t + 4 * n + 8 := by
  have h1 := nx_t st 3
  have h2 := drawP_t n (nx st 3) (List.range n) []
  unfold permF
  generalize drawP n (nx st 3) (List.range n) [] = d at h2
  dsimp only
  split
  · omega
  · split
    · have h3 := nx_t d.1 (kB n : Nat)
      dsimp only
      omega
    · dsimp only
      omega
end K

namespace K
open PySem PySem.Spec PyProof.Rows L2 DL DX PL
theorem stM_lo (st : St3) : loM 0 (stM st) := ⟨trivial, trivial, trivial, trivial⟩
section
variable {c : Cs} {Γ : Gm} {M M1 M2 : Sto} {e1 e2 : Expr} {k : Nat} {st : St3} {b : Int} {p pos : Pos}
theorem ex_digit (D : FnD c.ms 2 "_law_digit" ["state", "below"] Rdigit) (h1 : EX c Γ M e1 (.p k) M1) (h2 : EX c Γ M1 e2 (.d (.int b)) M2) (hk : M2[k]? = some (stM st)) (hb : 0 < b) (hb2 : b < 1073741824) (t0 : 0 ≤ st.t) (t1 : st.t ≤ 100000000) (hj : 2 ≤ c.k := by exact Nat.le_of_ble_eq_true rfl)
    (hg : c.sc.names.lookup ("_law_digit" : Str) = some gI := by rfl) (hs : Two e1 e2 := by intro _; rfl) (hs2 : One e2 := by intro _; rfl) : EX c Γ M (.Call (.Name "_law_digit" p) [e1, e2] [] pos) (.d (.int (dg st b))) (M2.set k (stM (nx st b))) :=
  ex_call [k] D (ea_cons h1 (ea_cons h2 ea_nil hs2) hs) ⟨st, b, rfl, hb, hb2, t0, t1, rfl, rfl, rfl⟩ (proj_set (ds := [.int b]) hk (stM_lo st) (stM_lo _)) rfl hj hg (by decide) hs (fun env => by rw [hs2]; rfl)
end
theorem sN_app (p q : List Nat) : sN p ++ sN q = sN (p ++ q) := by simp [sN, dN]
theorem sN_erase : ∀ (p : List Nat) (i : Nat), (sN p).eraseIdx i = sN (p.eraseIdx i)
  | [], _ => rfl
  | _ :: _, 0 => rfl
  | x :: p, i + 1 => congrArg (S.d (.int (x : Nat)) :: ·) (sN_erase p i)
theorem sN_take (p : List Nat) (k : Nat) : (sN p).take k = sN (p.take k) := by simp [sN, dN]
theorem cut_sN (p : List Nat) (k : Nat)   : DL.cutS (sN p) none (some (k : Int)) = sN (p.take k) := by
  unfold DL.cutS
  rw [HT.sIx_nat, HT.sIx_none, Nat.sub_zero, List.drop_zero, ← sN_take]
  by_cases h : k ≤ (sN p).length
  · rw [Nat.min_eq_left h]
  · rw [Nat.min_eq_right (by omega), List.take_of_length_le (Nat.le_refl _), List.take_of_length_le (by omega)]
abbrev NP : List Str := ["state", "size", "way", "rest", "found", "there", "cycle", "at", "place"]
theorem sc_l_perm : FnScope NP ["state", "size"] (defScope s_l_perm) := ⟨rfl, rfl, rfl, by decide +kernel, rfl, by decide +kernel, by decide +kernel⟩
def Rl_perm : Rl := fun args M r M' => ∃ (st : St3) (n : Nat), args = [.p 0, .d (.int n)] ∧ 1 ≤ n ∧ n ≤ 1000 ∧ 0 ≤ st.t ∧ st.t ≤ 90000000 ∧ M = [stM st] ∧ r = .q true (dN (permF st n).2) ∧ M' = [stM (permF st n).1]
abbrev cP (m : Ms) : Cs := m.cs NP (defScope s_l_perm) 2
theorem fin_st {T : Sto} {st st' : St3} {b : Bool} {ds ds' : List PyData} (e : st = st') (e2 : ds = ds') : DL.Fin 1 (.q b ds) ([stM st] ++ T) (.q b ds') [stM st'] := by
  subst e e2
  exact fin_lo (by simp) rfl ⟨loM_mono (Nat.zero_le 1) (stM_lo st), trivial⟩ trivial
section
variable {m : Ms}
/-- the loop that turns the cycle, what is behind it -/
theorem perm_tail (Z : Std m.mg) {n : Nat} {way : Int} {st : St3} {fd cyc : List Nat} {N : Nd} (hn : 4 ≤ n) (hn2 : n ≤ 1000) (hc : ∀ x ∈ cyc, x < n) (hl : 1 ≤ cyc.length) (hl2 : cyc.length ≤ 1000) (hf : ∀ x ∈ fd, x < n) (hfl : fd.length = n)
    (hN : ∀ T, N.rt (.q true (dN (if way = 2 then ((thereN n cyc cyc.length).set (at0 fd 2) (at0 fd 3)).set (at0 fd 3) (at0 fd 2) else thereN n cyc cyc.length))) ([stM st] ++ T)) :
    BX (cP m) [some (.p 0), some (.d (.int n)), some (.d (.int way)), some (.p 1), some (.p 2), some (.p 4), some (.p 5), none, none] [stM st, .lst (sN []), .lst (sN fd), .lst (sN []), .lst (sN (List.range n)), .lst (sN cyc)] ((defBody s_l_perm).drop 5) N := by
  refine bx_cons (sx_for (ix_enum (k := 5) (m := .lst (sN cyc)) (ex_var 6) rfl rfl Z.enum) (fun k Γ M => ∃ z1 z2, Γ = [some (.p 0), some (.d (.int n)), some (.d (.int way)), some (.p 1), some (.p 2), some (.p 4), some (.p 5), z1, z2] ∧ M = [stM st, .lst (sN []), .lst (sN fd), .lst (sN []), .lst (sN (thereN n cyc k)), .lst (sN cyc)]) ⟨_, Fg.refl _, none, none, rfl, rfl⟩ ?_ ?_ ?_)
  · rintro k Γ M _ ⟨z1, z2, rfl, rfl⟩
    exact ⟨_, rfl, rfl⟩
  · rintro k Γ M hk ⟨z1, z2, rfl, rfl⟩
    rw [sN_len] at hk
    have e : mkT [S.d (.int (k : Nat)), (sN cyc).getD k (.d .none)] = .d (.tuple [.int k, .int (at0 cyc k)]) := by
      rw [List.getD, sN_get (at0_get hk)]
      rfl
    rw [e]
    refine ⟨_, _, gx_tup rfl (gxs_cons (gx_name 7) (gxs_cons (gx_name 8) gxs_nil)), ?_⟩
    have hmod : (k + 1) % cyc.length < cyc.length := Nat.mod_lt _ (by omega)
    refine bx_one (sx_asg (r := .d (.int (at0 cyc ((k + 1) % cyc.length) : Nat))) (ex_ixL (k := 5) (i := (((k + 1) % cyc.length : Nat) : Int)) (m := .lst (sN cyc)) (ss := sN cyc) (ex_var 6) (ex_to (ex_bin (ex_bin (ex_var 7) ex_int os_add) (ex_len Z (ex_var 6) (.lst (m := .lst (sN cyc)) rfl rfl)) (os_mod (by rw [sN_len]; omega))) (by rw [sN_len]; congr 2) rfl) rfl rfl (sN_at hmod)) (gx_subL (k := 4) (i := (at0 cyc k : Nat)) (n := at0 cyc k) (ss := sN (thereN n cyc k)) (ex_var 5) (ex_var 8) rfl (ixN_nat (by rw [sN_len, thereN_len]; exact hc _ (at0_mem hk)))) ?_)
    refine nxt_of (n := 6) (Γ' := [some (.p 0), some (.d (.int n)), some (.d (.int way)), some (.p 1), some (.p 2), some (.p 4), some (.p 5), none, none]) (M' := [stM st, .lst (sN []), .lst (sN fd), .lst (sN []), .lst (sN (thereN n cyc (k + 1))), .lst (sN cyc)]) (Nat.le_refl _) ?_ ⟨loM_mono (Nat.zero_le _) (stM_lo st), sN_lo _ _, sN_lo _ _, sN_lo _ _, sN_lo _ _, sN_lo _ _, trivial⟩ ⟨rfl, rfl, rfl, rfl, rfl, rfl, rfl, trivial⟩ ⟨Nat.le_of_ble_eq_true rfl, trivial, trivial, Nat.le_of_ble_eq_true rfl, Nat.le_of_ble_eq_true rfl, Nat.le_of_ble_eq_true rfl, Nat.le_of_ble_eq_true rfl, trivial⟩ ⟨none, none, rfl, rfl⟩
    rw [thereN_succ, ← sN_set]
    rfl
  · rintro Γ M ⟨z1, z2, rfl, rfl⟩
    rw [sN_len]
    have h2 : at0 fd 2 < n := hf _ (at0_mem (by omega))
    have h3 : at0 fd 3 < n := hf _ (at0_mem (by omega))
    refine bx_cons (sx_if (q := decide (way = 2)) (et_cmp (ex_var 2) ex_int os_eqI (nomark _)) (fun q => ?_) (fun q => bx_nil ?_))
    · have q' := of_decide_eq_true q
      have e2 : ∀ {Γ M a b pos}, EX (cP m) Γ M a (.p 2) M → EX (cP m) Γ M b (.d (.int ((2 : Nat) : Int))) M → M[2]? = some (.lst (sN fd)) → PlainIx b → EX (cP m) Γ M (.Subscript a b pos) (.d (.int (at0 fd 2 : Nat))) M := fun h1 h2 h3 h4 => ex_ixL h1 h2 h3 rfl (sN_at (by omega)) h4
      have e3 : ∀ {Γ M a b pos}, EX (cP m) Γ M a (.p 2) M → EX (cP m) Γ M b (.d (.int ((3 : Nat) : Int))) M → M[2]? = some (.lst (sN fd)) → PlainIx b → EX (cP m) Γ M (.Subscript a b pos) (.d (.int (at0 fd 3 : Nat))) M := fun h1 h2 h3 h4 => ex_ixL h1 h2 h3 rfl (sN_at (by omega)) h4
      refine bx_one (sx_asg (r := .d (.tuple [.int (at0 fd 3 : Nat), .int (at0 fd 2 : Nat)])) (ex_to (ex_tup (ea_cons (e3 (ex_var 4) ex_int rfl (fun _ _ => rfl)) (ea_cons (e2 (ex_var 4) ex_int rfl (fun _ _ => rfl)) ea_nil)) (Nat.le_of_ble_eq_true rfl)) rfl rfl) (gx_tup rfl (gxs_cons (gx_subL (k := 4) (n := at0 fd 2) (ss := sN (thereN n cyc cyc.length)) (ex_var 5) (e2 (ex_var 4) ex_int rfl (fun _ _ => rfl)) rfl (ixN_nat (by rw [sN_len, thereN_len]; exact h2))) (gxs_cons (gx_subL (k := 4) (n := at0 fd 3) (ss := (sN (thereN n cyc cyc.length)).set (at0 fd 2) (.d (.int (at0 fd 3 : Nat)))) (ex_var 5) (e3 (ex_var 4) ex_int rfl (fun _ _ => rfl)) rfl (ixN_nat (by rw [List.length_set, sN_len, thereN_len]; exact h3))) gxs_nil))) ?_ (hw := by
        intro env he
        cases env
        cases he
        rfl))
      refine bx_one (sx_ret (ex_tuple1 true (k := 4) (m := .lst (((sN (thereN n cyc cyc.length)).set (at0 fd 2) (.d (.int (at0 fd 3 : Nat)))).set (at0 fd 3) (.d (.int (at0 fd 2 : Nat))))) (ds := dN (((thereN n cyc cyc.length).set (at0 fd 2) (at0 fd 3)).set (at0 fd 3) (at0 fd 2))) Z (ex_var 5) rfl ?_) ?_)
      · rw [sN_set, sN_set]
        rfl
      · have := hN [.lst (sN []), .lst (sN fd), .lst (sN []), .lst (((sN (thereN n cyc cyc.length)).set (at0 fd 2) (.d (.int (at0 fd 3 : Nat)))).set (at0 fd 3) (.d (.int (at0 fd 2 : Nat)))), .lst (sN cyc)]
        rw [if_pos q'] at this
        exact this
    · have q' := of_decide_eq_false q
      refine bx_one (sx_ret (ex_tuple1 true (k := 4) (m := .lst (sN (thereN n cyc cyc.length))) Z (ex_var 5) rfl rfl) ?_)
      have := hN [.lst (sN []), .lst (sN fd), .lst (sN []), .lst (sN (thereN n cyc cyc.length)), .lst (sN cyc)]
      rw [if_neg q'] at this
      exact this
end
end K

namespace K
open PySem PySem.Spec PyProof.Rows L2 DL DX PL
theorem big12 {n : Nat} (h : n ≤ 1000) {p : List Nat} (hp : ∀ x ∈ p, x < n) : ∀ x ∈ p, x < 10 ^ 12 := fun x hx => Nat.lt_of_lt_of_le (hp x hx) (Nat.le_trans h (by decide))
theorem ok_l_perm {m : Ms} (Z : Std m.mg) (D : FnD m 2 "_law_digit" ["state", "below"] Rdigit) (h : HasD m "_law_perm" s_l_perm ["state", "size"]) : FnD m 3 "_law_perm" ["state", "size"] Rl_perm := by
  refine fnD_of h sc_l_perm (by decide) ?_
  rintro args M r M' - ⟨st, n, rfl, hn1, hn2, t0, t1, rfl, rfl, rfl⟩
  show BX (cP m) [some (.p 0), some (.d (.int n)), none, none, none, none, none, none, none] [stM st] (defBody s_l_perm) _
  refine bx_cons (sx_par3 2 3 4 (x := .d (.int (dg st 3))) (y := .p 1) (z := .p 2) (M1 := [stM (nx st 3), .lst (sN (List.range n)), .lst (sN [])]) (ea_cons (ex_digit (k := 0) (st := st) D (ex_var 0) ex_int rfl (by decide) (by decide) t0 (by omega)) (ea_cons (ex_listRg Z (ex_var 1) (by omega)) (ea_cons (ex_list ea_nil (Nat.le_of_ble_eq_true rfl)) ea_nil))) ?_ (hw := by
    intro env he
    cases env
    cases he
    rfl))
  have hnx := nx_t st 3
  generalize hd : drawP n (nx st 3) (List.range n) [] = d
  have hdP := drawP_isP hn1 (nx st 3)
  rw [hd] at hdP
  obtain ⟨hP, hPl⟩ := hdP
  have hdt := drawP_t n (nx st 3) (List.range n) []
  rw [hd] at hdt
  refine bx_cons (sx_while (fun k Γ M => ∃ st' rest fd, rest.length = k ∧ k ≤ n ∧ fd.length + k = n ∧ drawP k st' rest fd = d ∧ (∀ x ∈ rest, x < n) ∧ 0 ≤ st'.t ∧ st'.t + 4 * (k : Int) ≤ st.t + 4 + 4 * (n : Int) ∧ Γ = [some (.p 0), some (.d (.int n)), some (.d (.int (dg st 3))), some (.p 1), some (.p 2), none, none, none, none] ∧ M = [stM st', .lst (sN rest), .lst (sN fd)])
    ⟨n, _, Fg.refl _, nx st 3, List.range n, [], by simp, Nat.le_refl _, by simp, hd, fun x hx => List.mem_range.mp hx, by omega, by omega, rfl, rfl⟩ ?_)
  rintro k Γ M ⟨st', rest, fd, hk, hkn, hfd, hdr, hr, t0', t1', rfl, rfl⟩
  refine ⟨!decide (rest = []), [stM st', .lst (sN rest), .lst (sN fd), .lst (sN [])], et_cmp (ex_var 3) (ex_list ea_nil (Nat.le_of_ble_eq_true rfl)) (os_neLN (p := rest) (q := []) (Dg.li (m := .lst (sN rest)) rfl rfl) (Dg.li (k := 3) (m := .lst (sN [])) rfl rfl) (big12 hn2 hr) (fun _ h => by cases h)) (by with_unfolding_all rfl), fun q => ?_, fun q => ?_⟩
  · have hne : rest ≠ [] := by simpa using q
    obtain ⟨k', rfl⟩ : ∃ k', k = k' + 1 := by
      cases k with
      | zero => exact absurd (List.eq_nil_of_length_eq_zero hk) hne
      | succ k' => exact ⟨k', rfl⟩
    obtain ⟨hi, hie⟩ := dgN_lt (st := st') (b := rest.length) (by omega)
    refine bx_one (sx_expr (ex_append (k := 2) (xs := sN fd) (ys := sN fd) (s := .d (.int (at0 rest (dgN st' rest.length) : Nat))) (ex_var 4) (ex_popAt (k := 1) (xs := sN rest) (ys := sN rest) (n := dgN st' rest.length) (ex_var 3) (ex_digit (k := 0) (st := st') (b := ((sN rest).length : Nat)) D (ex_var 0) (ex_len Z (ex_var 3) (.lst (m := .lst (sN rest)) rfl rfl)) rfl (by rw [sN_len]; omega) (by rw [sN_len]; omega) t0' (by omega)) rfl rfl (by rw [sN_len]; exact hie) (sN_get (at0_get hi)) (by rw [sN_len]; omega)) rfl rfl (by rw [sN_len]; omega)) ?_)
    refine nxt_of (n := 3) (Γ' := [some (.p 0), some (.d (.int n)), some (.d (.int (dg st 3))), some (.p 1), some (.p 2), none, none, none, none]) (M' := [stM (nx st' (rest.length : Nat)), .lst (sN (rest.eraseIdx (dgN st' rest.length))), .lst (sN (fd ++ [at0 rest (dgN st' rest.length)]))]) (Nat.le_of_ble_eq_true rfl) ?_ ⟨loM_mono (Nat.zero_le _) (stM_lo _), sN_lo _ _, sN_lo _ _, trivial⟩ ⟨rfl, rfl, rfl, rfl, rfl, trivial⟩ ⟨Nat.le_of_ble_eq_true rfl, trivial, trivial, Nat.le_of_ble_eq_true rfl, Nat.le_of_ble_eq_true rfl, trivial⟩ ?_
    · rw [← sN_erase, ← sN_app, sN_len]
      rfl
    · have hx := nx_t st' (rest.length : Nat)
      refine ⟨k', by omega, nx st' (rest.length : Nat), rest.eraseIdx (dgN st' rest.length), fd ++ [at0 rest (dgN st' rest.length)], by rw [List.length_eraseIdx_of_lt hi]; omega, by omega, by rw [List.length_append]; simp; omega, hdr, fun x hx => hr x (List.mem_of_mem_eraseIdx hx), by omega, by omega, rfl, rfl⟩
  · have he : rest = [] := by simpa using q
    subst he
    have hk0 : k = 0 := by simpa using hk.symm
    subst hk0
    have hdd : d = (st', fd) := hdr.symm
    subst hdd
    dsimp only at hP hPl hdt
    have hpf : permF st n = (if dg st 3 = 0 ∨ n < 4 then (st', fd) else if dg st 3 = 1 then (nx st' (kB n : Nat), thereN n (fd.take (2 + dgN st' (kB n))) (fd.take (2 + dgN st' (kB n))).length) else (st', ((thereN n (fd.take 2) 2).set (at0 fd 2) (at0 fd 3)).set (at0 fd 3) (at0 fd 2))) := by
      unfold permF
      rw [hd]
    have hlt : ∀ x ∈ fd, x < n := fun x hx => by rw [← hPl]; exact hP.lt x hx
    refine bx_cons (sx_if (q := decide (dg st 3 = 0) || decide (n < 4)) (M1 := [stM st', .lst (sN []), .lst (sN fd), .lst (sN [])]) (et_w (ew_or (et_cmp (ex_var 2) ex_int os_eqI (nomark _)) fun _ => ew_or1 (et_to (et_cmp (ex_var 1) ex_int os_lt (nomark _)) (decide_eq_decide.mpr (by omega)) rfl))) (fun q => ?_) (fun q => bx_nil ?_))
    · have q' : dg st 3 = 0 ∨ n < 4 := by simpa using q
      rw [if_pos q'] at hpf
      rw [hpf]
      exact bx_one (sx_ret (ex_tuple1 true (k := 2) (m := .lst (sN fd)) Z (ex_var 4) rfl rfl) (fin_st (T := [.lst (sN []), .lst (sN fd), .lst (sN [])]) rfl rfl))
    · have q' : ¬ (dg st 3 = 0 ∨ n < 4) := by simpa using q
      rw [if_neg q'] at hpf
      have h4 : 4 ≤ n := by omega
      -- the test's own list goes before the rest is read
      refine bx_cons (sx_set 5 (r := .p 4) (M1 := [stM st', .lst (sN []), .lst (sN fd), .lst (sN []), .lst (sN (List.range n))]) (ex_listRg Z (ex_var 1) (by omega)) ?_)
      by_cases c2 : dg st 3 = 1
      · rw [if_pos c2] at hpf
        have hkB : 0 < kB n ∧ kB n ≤ 4 ∧ kB n + 1 ≤ n := by unfold kB; split <;> omega
        obtain ⟨hi, hie⟩ := dgN_lt (st := st') (b := kB n) hkB.1
        have htl : (fd.take (2 + dgN st' (kB n))).length = 2 + dgN st' (kB n) := by
          rw [List.length_take]
          omega
        refine bx_cons (sx_set 6 (r := .p 5) (M1 := [stM (nx st' (kB n : Nat)), .lst (sN []), .lst (sN fd), .lst (sN []), .lst (sN (List.range n)), .lst (sN (fd.take (2 + dgN st' (kB n))))]) (ex_if (q := true) (et_to (et_cmp (ex_var 2) ex_int os_eqI (nomark _)) (by rw [c2]; rfl) rfl) (fun _ => ex_slL (k := 2) (m := .lst (sN fd)) (ss := sN fd) (h := some ((2 + dgN st' (kB n) : Nat) : Int)) (ex_var 4) eo_none (eo_some (M1 := [stM (nx st' (kB n : Nat)), .lst (sN []), .lst (sN fd), .lst (sN []), .lst (sN (List.range n))]) (ex_to (ex_bin ex_int (ex_digit (k := 0) (st := st') (b := ((kB n : Nat) : Int)) D (ex_var 0) (ex_to (ex_min2 Z ex_int (ex_bin (ex_var 1) ex_int os_sub)) ?_ rfl) rfl (by omega) (by omega) t0' (by omega)) os_add) ?_ rfl)) rfl rfl ?_ rfl) (fun q => by cases q)) ?_)
        · unfold kB
          congr 2
          split <;> split <;> omega
        · rw [hie]
          rfl
        · rw [cut_sN]
          rfl
        · refine perm_tail Z h4 hn2 (fun x hx => hlt x (List.mem_of_mem_take hx)) (by omega) (by omega) hlt hPl fun T => ?_
          rw [if_neg (by omega), hpf]
          exact fin_st rfl rfl
      · rw [if_neg c2] at hpf
        have htl : (fd.take 2).length = 2 := by rw [List.length_take]; omega
        refine bx_cons (sx_set 6 (r := .p 5) (M1 := [stM st', .lst (sN []), .lst (sN fd), .lst (sN []), .lst (sN (List.range n)), .lst (sN (fd.take 2))]) (ex_if (q := false) (et_to (et_cmp (ex_var 2) ex_int os_eqI (nomark _)) (decide_eq_false c2) rfl) (fun q => by cases q) (fun _ => ex_slL (k := 2) (m := .lst (sN fd)) (ss := sN fd) (h := some ((2 : Nat) : Int)) (ex_var 4) eo_none (eo_some ex_int) rfl rfl ?_ rfl)) ?_)
        · rw [cut_sN]
          rfl
        · refine perm_tail Z h4 hn2 (fun x hx => hlt x (List.mem_of_mem_take hx)) (by omega) (by omega) hlt hPl fun T => ?_
          have hw : dg st 3 = 2 := by
            have := dg_b st (b := 3) (by decide)
            omega
          rw [if_pos hw, hpf, htl]
          exact fin_st rfl rfl
end K

namespace K
open PySem PySem.Spec PyProof.Rows L2 DL DX PL
theorem sc_l_power : FnScope ["perm", "times", "found", "place", "cycle", "here"] ["perm", "times"] (defScope s_l_power) := ⟨rfl, rfl, rfl, by decide +kernel, rfl, by decide +kernel, by decide +kernel⟩
def Rl_power : Rl := fun args M r M' => ∃ (p : List Nat) (t : Int), args = [.d (tN p), .d (.int t)] ∧ IsP p ∧ p.length ≤ 1000 ∧ M = [] ∧ r = .q true (dN (lawPow p t)) ∧ M' = []
theorem os_neI' {c : Cs} {M : Sto} {i j : Nat} : OS c (compareOp .NotEq) (.d (.int i)) (.d (.int j)) M (.d (.bool (!decide (i = j)))) M :=
  os_neI.to (by congr 2; refine congrArg _ (decide_eq_decide.mpr ?_); omega) rfl
theorem ok_l_power {m : Ms} (Z : Std m.mg) (h : HasD m "_law_power" s_l_power ["perm", "times"]) : FnD m 1 "_law_power" ["perm", "times"] Rl_power := by
  refine fnD_of h sc_l_power (by decide) ?_
  rintro args M r M' - ⟨p, t, rfl, hp, hl, rfl, rfl, rfl⟩
  show BX _ [some (.d (tN p)), some (.d (.int t)), none, none, none, none] [] (defBody s_l_power) _
  have hi : Items (S.d (tN p)) (sN p) := rfl
  have hlen : Ln ([.lst []] : Sto) (S.d (tN p)) p.length := by
    have := Ln.tup (M := ([.lst []] : Sto)) hi
    rwa [sN_len] at this
  let F : Nat → Nat := fun x => itr (at0 p) (t % (per p x : Int)).toNat x
  refine bx_cons (sx_set 2 (r := .p 0) (M1 := [.lst []]) (ex_list ea_nil (Nat.le_of_ble_eq_true rfl)) ?_)
  refine bx_cons (sx_for (n := p.length) (M1 := [.lst []]) (ix_range1 (ex_len Z (ex_var 0) hlen) (by omega) (by omega) (hm := Z.range)) (fun k Γ M => ∃ z1 z2 z3, Γ = [some (.d (tN p)), some (.d (.int t)), some (.p 0), z1, z2, z3] ∧ M = [.lst (sN ((List.range k).map F))]) ⟨_, Fg.refl _, none, none, none, rfl, rfl⟩ (fun _ _ _ _ _ => trivial) ?_ ?_)
  · rintro k Γ M hk ⟨z1, z2, z3, rfl, rfl⟩
    have hk' : k < p.length := hk
    obtain ⟨hL1, hL2, hL3, hL4⟩ := per_spec hp hk'
    have hlt : ∀ j, itr (at0 p) j k < p.length := itr_lt hp hk'
    refine ⟨_, _, gx_name 3, ?_⟩
    let cyc : Nat → List Nat := fun j => (List.range j).map fun i => itr (at0 p) i k
    refine bx_cons (sx_par 4 5 (x := .p 1) (y := .d (.int (itr (at0 p) 1 k : Nat))) (M1 := [.lst (sN ((List.range k).map F)), .lst (sN (cyc 1))]) (ea_cons (ex_list (ea_cons (ex_var 3) ea_nil) (Nat.le_of_ble_eq_true rfl)) (ea_cons (ex_ixT (s := .d (.int (at0 p k : Nat))) (ex_var 0) (ex_var 3) hi (sN_at hk')) ea_nil)) ?_ (hw := by
      intro env he
      cases env
      cases he
      rfl))
    refine bx_cons (sx_while (fun q Γ M => ∃ j, 1 ≤ j ∧ q + j = per p k ∧ Γ = [some (.d (tN p)), some (.d (.int t)), some (.p 0), some (.d (.int (k : Nat))), some (.p 1), some (.d (.int (itr (at0 p) j k : Nat)))] ∧ M = [.lst (sN ((List.range k).map F)), .lst (sN (cyc j))]) ⟨per p k - 1, _, Fg.refl _, 1, Nat.le_refl _, by omega, rfl, rfl⟩ ?_)
    rintro q Γ M ⟨j, hj1, hj2, rfl, rfl⟩
    refine ⟨_, _, et_cmp (ex_var 5) (ex_var 3) os_neI' (nomark _), fun qq => ?_, fun qq => ?_⟩
    · have hne : itr (at0 p) j k ≠ k := by simpa using qq
      have hq0 : 0 < q := by
        rcases Nat.eq_zero_or_pos q with z | z
        · exfalso
          apply hne
          rw [show j = per p k from by omega]
          exact hL3
        · exact z
      refine bx_cons (sx_expr (ex_append (k := 1) (xs := sN (cyc j)) (ys := sN (cyc j)) (s := .d (.int (itr (at0 p) j k : Nat))) (ex_var 4) (ex_var 5) rfl rfl (by rw [sN_len]; simp [cyc]; omega)) ?_)
      refine bx_one (sx_set 5 (r := .d (.int (itr (at0 p) (j + 1) k : Nat))) (ex_ixT (s := .d (.int (at0 p (itr (at0 p) j k) : Nat))) (ex_var 0) (ex_var 5) hi (sN_at (hlt j))) ?_)
      refine nxt_of (n := 2) (Γ' := [some (.d (tN p)), some (.d (.int t)), some (.p 0), some (.d (.int (k : Nat))), some (.p 1), some (.d (.int (itr (at0 p) (j + 1) k : Nat)))]) (M' := [.lst (sN ((List.range k).map F)), .lst (sN (cyc (j + 1)))]) (Nat.le_refl _) ?_ ⟨sN_lo _ _, sN_lo _ _, trivial⟩ ⟨rfl, rfl, rfl, rfl, rfl, rfl, trivial⟩ ⟨trivial, trivial, Nat.zero_lt_two, trivial, Nat.one_lt_two, trivial, trivial⟩ ⟨q - 1, by omega, j + 1, by omega, by omega, rfl, rfl⟩
      have : cyc (j + 1) = cyc j ++ [itr (at0 p) j k] := by
        show (List.range (j + 1)).map _ = _
        rw [List.range_succ, List.map_append]
        rfl
      rw [this, ← sN_app]
      rfl
    · have he : itr (at0 p) j k = k := by simpa using qq
      have hjp : j = per p k := by
        rcases Nat.lt_or_ge j (per p k) with z | z
        · exact absurd he (hL4 j hj1 z)
        · omega
      subst hjp
      have m0 := Int.emod_nonneg t (by omega : (per p k : Int) ≠ 0)
      have m1 := Int.emod_lt_of_pos t (by omega : (0 : Int) < (per p k : Int))
      have hix : (t % (per p k : Int)).toNat < per p k := by omega
      have hcl : (cyc (per p k)).length = per p k := by simp [cyc]
      have hat : at0 (cyc (per p k)) (t % (per p k : Int)).toNat = F k := at0_range hix
      refine bx_one (sx_expr (ex_append (k := 0) (xs := sN ((List.range k).map F)) (ys := sN ((List.range k).map F)) (s := .d (.int (F k : Nat))) (ex_var 2) (ex_ixL (k := 1) (i := (((t % (per p k : Int)).toNat : Nat) : Int)) (m := .lst (sN (cyc (per p k)))) (ex_var 4) (ex_to (ex_bin (ex_var 1) (ex_len Z (ex_var 4) (.lst (m := .lst (sN (cyc (per p k)))) rfl rfl)) (os_mod (by rw [sN_len, hcl]; omega))) (by rw [sN_len, hcl]; congr 2; omega) rfl) rfl rfl (by rw [sN_at (by rw [hcl]; exact hix), hat])) rfl rfl (by rw [sN_len]; simp; omega)) ?_)
      refine nxt_of (n := 1) (Γ' := [some (.d (tN p)), some (.d (.int t)), some (.p 0), none, none, none]) (M' := [.lst (sN ((List.range (k + 1)).map F))]) (Nat.le_of_ble_eq_true rfl) ?_ ⟨sN_lo _ _, trivial⟩ ⟨rfl, rfl, rfl, trivial⟩ ⟨trivial, trivial, Nat.zero_lt_one, trivial⟩ ⟨none, none, none, rfl, rfl⟩
      rw [List.range_succ, List.map_append, ← sN_app]
      rfl
  · rintro Γ M ⟨z1, z2, z3, rfl, rfl⟩
    exact bx_one (sx_ret (ex_tuple1 true (k := 0) (m := .lst (sN (lawPow p t))) Z (ex_var 2) rfl rfl) (fin_lo (Nat.zero_le _) rfl trivial trivial))
end K

namespace K
open PySem PySem.Spec PyProof.Rows L2 DL DX PL
theorem sc_l_is_perm : FnScope ["thing", "place"] ["thing"] (defScope s_l_is_perm) := ⟨rfl, rfl, rfl, by decide +kernel, rfl, by decide +kernel, by decide +kernel⟩
def Rl_is_perm : Rl := fun args M r M' => ∃ (s : S) (d : PyData) (w : Nat), args = [s] ∧ Dt M s d ∧ Sm d 60 w ∧ loMs 0 M ∧ r = .d (.bool (okP d)) ∧ M' = M
def badI (x : PyData) : Bool := !isInt x || isBool x
theorem badI_no : ∀ {ds : List PyData}, ds.filter badI = [] → ∃ ns : List Int, ds = ns.map PyData.int
  | [], _ => ⟨[], rfl⟩
  | d :: ds, h => by
    have hd : badI d = false := by
      cases q : badI d with
      | false => rfl
      | true => rw [List.filter_cons, if_pos q] at h; cases h
    rw [List.filter_cons, if_neg (by rw [hd]; exact Bool.false_ne_true)] at h
    obtain ⟨ns, rfl⟩ := badI_no h
    cases d with
    | int i => exact ⟨i :: ns, rfl⟩
    | bool b => cases hd
    | _ => cases hd
theorem okP_bad {ds : List PyData} (h : ds.filter badI ≠ []) : okP (.tuple ds) = false := by
  cases e : okP (.tuple ds) with
  | false => rfl
  | true =>
    obtain ⟨p, e1, _⟩ := okP_iff.mp e
    injection e1 with e1
    subst e1
    refine absurd (List.filter_eq_nil_iff.mpr fun x hx => ?_) h
    obtain ⟨n, _, rfl⟩ := List.mem_map.mp hx
    simp [badI, DL.isInt, DL.isBool]
/-- sorted ints are 0, 1, .. exactly where they are a permutation -/
theorem okP_sorted {ns ms : List Int} (hm : ms.Perm ns) (hs : ms.Pairwise (· ≤ ·)) (h1 : 1 ≤ ns.length) (h2 : ns.length ≤ 24) : okP (.tuple (ns.map PyData.int)) = decide (ms = zN (List.range ns.length)) := by
  have hsr : (zN (List.range ns.length)).Pairwise (· ≤ ·) := List.pairwise_map.mpr ((List.pairwise_lt_range (n := ns.length)).imp fun h => by omega)
  by_cases e : ms = zN (List.range ns.length)
  · have hp : ns.Perm (zN (List.range ns.length)) := by rw [← e]; exact hm.symm
    have hall : ∀ x ∈ ns, 0 ≤ x ∧ x < ns.length := fun x hx => by
      obtain ⟨y, hy, rfl⟩ := List.mem_map.mp (hp.mem_iff.mp hx)
      have := List.mem_range.mp hy
      omega
    rw [decide_eq_true e]
    obtain ⟨p, hp2⟩ : ∃ p : List Nat, ns = zN p := ⟨ns.map Int.toNat, by
      rw [zN, List.map_map]
      conv => lhs; rw [← List.map_id ns]
      refine List.map_congr_left fun x hx => ?_
      have := hall x hx
      show x = ((x.toNat : Nat) : Int)
      omega⟩
    have hl : ns.length = p.length := by rw [hp2]; simp
    refine okP_iff.mpr ⟨p, ?_, ⟨by omega, fun x hx => ?_, ?_⟩, by omega⟩
    · rw [hp2, ← dN_z]
      rfl
    · have := hall (x : Int) (by rw [hp2]; exact List.mem_map.mpr ⟨x, hx, rfl⟩)
      omega
    · rw [← zN_nodup, ← hp2]
      exact hp.nodup_iff.mpr (zN_nodup.mpr List.nodup_range)
  · rw [decide_eq_false e]
    cases q : okP (.tuple (ns.map PyData.int)) with
    | false => rfl
    | true =>
      obtain ⟨p, e1, hP, _⟩ := okP_iff.mp q
      have e2 : ns.map PyData.int = dN p := by injection e1
      have e3 : ns = zN p := by
        rw [dN_z] at e2
        exact (List.map_inj_right (fun a b h => by injection h)).mp e2
      have hl : ns.length = p.length := by rw [e3]; simp
      refine absurd ?_ e
      have hp : ms.Perm (zN (List.range ns.length)) := by
        refine hm.trans ?_
        rw [hl, e3]
        exact hP.perm.map _
      exact List.Perm.eq_of_pairwise (le := (· ≤ ·)) (fun a b _ _ h h' => Int.le_antisymm h h') hs hsr hp
theorem sort_of (ns : List Int) : ∃ ms : List Int, ms.Perm ns ∧ ms.Pairwise (· ≤ ·) := by
  refine ⟨ns.mergeSort (fun a b => decide (a ≤ b)), List.mergeSort_perm _ _, ?_⟩
  have := List.pairwise_mergeSort (le := fun a b : Int => decide (a ≤ b)) (fun a b c h1 h2 => by simp at *; omega) (fun a b => by simp; omega) ns
  exact this.imp fun h => by simpa using h
theorem ok_l_is_perm {m : Ms} (Z : Std m.mg) (h : HasD m "_law_is_perm" s_l_is_perm ["thing"]) : FnD m 1 "_law_is_perm" ["thing"] Rl_is_perm := by
  refine fnD_of h sc_l_is_perm (by decide) ?_
  rintro args M r M' - ⟨s, d, w, rfl, hd, hsm, lo, rfl, rfl⟩
  show BX _ [some s, none] M' (defBody s_l_is_perm) _
  cases ht : isTup d with
  | false =>
    refine bx_cons (sx_if (q := true) (M1 := M') ?_ ?_ (fun q => by cases q))
    · exact et_w (ew_orT (et_to (et_not (et_val (ex_isTuple Z (ex_var 0) hd.dg))) (by rw [isA_tup, ht]; rfl) rfl))
    · exact fun _ => bx_one (sx_ret ex_bool (fin_d00 lo (by rw [okP_no ht])))
  | true =>
    obtain ⟨ds, rfl⟩ : ∃ ds, d = .tuple ds := by cases d <;> first | exact ⟨_, rfl⟩ | cases ht
    have hi := hd.items
    have hl : (ds.map S.d).length = ds.length := List.length_map ..
    have hlen : ∀ {T : Sto}, Ln T s ds.length := fun {T} => by
      have := Ln.tup (M := T) hi
      rwa [hl] at this
    have hT : ∀ {Γ T} {p p2 p3 : Pos}, EX (m.cs ["thing", "place"] (defScope s_l_is_perm) 0) (some s :: Γ) T (.Call (.Name "len" p) [.Name "thing" p2] [] p3) (.d (.int ds.length)) T := fun {Γ T p p2 p3} => ex_len Z (ex_var 0) hlen
    by_cases hb : 1 ≤ ds.length ∧ ds.length ≤ 24
    · refine bx_cons (sx_if (q := false) (M1 := M') ?_ (fun q => by cases q) (fun _ => bx_nil ?_))
      · refine et_w (ew_orF (et_to (et_not (et_val (ex_isTuple Z (ex_var 0) hd.dg))) (by rw [isA_tup, ht]; rfl) rfl) (ew_orF (et_to (et_cmp hT ex_int os_lt (nomark _)) ?_ rfl) (ew_or1 (et_to (et_cmp hT ex_int os_gt (nomark _)) ?_ rfl))))
        · exact decide_eq_false (by omega)
        · exact decide_eq_false (by omega)
      · have hW : loMs M'.length M' := loMs_up lo
        have hSm := hsm.untuple
        have hflt : (ds.map S.d).filter (fun s => match s with | .d x => badI x | _ => false) = (ds.filter badI).map S.d := by
          rw [List.filter_map]
          rfl
        have hSf : SmL (ds.filter badI) 60 ((ds.filter badI).length * (w + 1)) := SmL.all fun x hx => sm_items hSm (List.mem_filter.mp hx).1
        refine bx_cons (sx_if (q := !decide (ds.filter badI = [])) (M1 := M' ++ [.lst ((ds.filter badI).map S.d)] ++ [.lst []]) ?_ (fun q => ?_) (fun q => bx_nil ?_))
        · refine et_to (et_cmp (M1 := M' ++ [.lst ((ds.filter badI).map S.d)]) (M2 := M' ++ [.lst ((ds.filter badI).map S.d)] ++ [.lst []]) (ex_to (ex_lcF (W := M') (ss := ds.map S.d) (fun s => match s with | .d x => badI x | _ => false) id [("place", 1)] (ix_tup' (ex_var 0) hi) (fun _ => trivial) (by rw [hl]; omega) hW ?_ ?_) rfl (by rw [hflt, List.map_id])) (ex_list ea_nil (Nat.le_of_ble_eq_true rfl)) (os_neG (d := .list (ds.filter badI)) (e := .list []) (Dg.li (k := M'.length) (m := .lst ((ds.filter badI).map S.d)) (by simp) rfl) (Dg.li (k := (M' ++ [MO.lst ((ds.filter badI).map S.d)]).length) (m := .lst []) (by simp) rfl) (hSf.list.shaped (by decide)) (SmL.nil.list.shaped (by decide))) (by with_unfolding_all rfl)) (by rw [eqv_nil]) rfl
          · intro s1 hs _
            obtain ⟨x, _, rfl⟩ := List.mem_map.mp hs
            trivial
          · intro s1 hs acc
            obtain ⟨x, _, rfl⟩ := List.mem_map.mp hs
            refine ⟨_, gw_name 1, et_to (et_w (ew_or (et_not (et_val (ex_isInt Z (ex_var 1) (.d x)))) fun _ => ew_or1 (et_val (ex_isBool Z (ex_var 1) (.d x))))) ?_ rfl, fun _ => ex_var 1⟩
            rw [isA_int, isA_bool]
            rfl
        · have q' : ds.filter badI ≠ [] := by simpa using q
          have := fin_d0 (M := M') (x := .bool false) (r := .bool (okP (.tuple ds))) (T := [.lst ((ds.filter badI).map S.d), .lst []]) lo (by rw [okP_bad q'])
          refine bx_one (sx_ret ex_bool ?_)
          rw [List.append_assoc]
          exact this
        · have q' : ds.filter badI = [] := by simpa using q
          obtain ⟨ns, rfl⟩ := badI_no q'
          obtain ⟨ms, hm, hs⟩ := sort_of ns
          have hnl : (ns.map PyData.int).length = ns.length := List.length_map ..
          rw [hnl] at hb
          rw [q']
          have hsl : SmL (ms.map PyData.int) 60 ((ms.map PyData.int).length * (w + 1)) := SmL.all fun x hx => by
            obtain ⟨i, hi', rfl⟩ := List.mem_map.mp hx
            exact sm_items hSm (List.mem_map.mpr ⟨i, hm.mem_iff.mp hi', rfl⟩)
          have hrl : SmL (dN (List.range ns.length)) 0 ((List.range ns.length).length * 41) := smL_dN fun x hx => by
            have h1 := List.mem_range.mp hx
            have h2 : (24 : Nat) < 10 ^ 12 := by decide
            omega
          refine bx_one (sx_ret (r := .d (.bool (okP (.tuple (ns.map PyData.int))))) (M1 := M' ++ [.lst (List.map S.d [])] ++ [.lst []] ++ [.lst (intsS ms)] ++ [.lst (sN (List.range ns.length))]) (ex_to (ex_cmp (M1 := M' ++ [.lst (List.map S.d [])] ++ [.lst []] ++ [.lst (intsS ms)]) (M2 := M' ++ [.lst (List.map S.d [])] ++ [.lst []] ++ [.lst (intsS ms)] ++ [.lst (sN (List.range ns.length))]) (ex_sortedT Z (ex_var 0) (show Items s (intsS ns) by rw [ints_s] at hi; exact hi) hm hs) (ex_listRg Z (ex_to hT (by rw [hnl]) rfl) (by omega)) (os_eqG (d := .list (ms.map PyData.int)) (e := .list (dN (List.range ns.length))) (Dg.li (m := .lst (intsS ms)) (by simp) (by rw [ints_s]; rfl)) (Dg.li (m := .lst (sN (List.range ns.length))) (by simp) rfl) (hsl.list.shaped (by decide)) (hrl.list.shaped (by decide))) (by with_unfolding_all rfl)) ?_ rfl) ?_)
          · rw [okP_sorted hm hs hb.1 hb.2]
            congr 2
            simp only [PyData.eqv]
            rw [dN_z, eqvAll_ints]
          · have := fin_d0 (M := M') (T := [.lst (List.map S.d []), .lst [], .lst (intsS ms), .lst (sN (List.range ns.length))]) (x := .bool (okP (.tuple (ns.map PyData.int)))) lo rfl
            simp only [List.append_assoc]
            exact this
    · refine bx_cons (sx_if (q := true) (M1 := M') ?_ ?_ (fun q => by cases q))
      · refine et_w (ew_orF (et_to (et_not (et_val (ex_isTuple Z (ex_var 0) hd.dg))) (by rw [isA_tup, ht]; rfl) rfl) ?_)
        by_cases h1 : 1 ≤ ds.length
        · exact ew_orF (et_to (et_cmp hT ex_int os_lt (nomark _)) (decide_eq_false (by omega)) rfl) (ew_or1 (et_to (et_cmp hT ex_int os_gt (nomark _)) (decide_eq_true (by omega)) rfl))
        · exact ew_orT (et_to (et_cmp hT ex_int os_lt (nomark _)) (decide_eq_true (by omega)) rfl)
      · refine fun _ => bx_one (sx_ret ex_bool (fin_d00 lo ?_))
        have : (decide (1 ≤ ds.length) && decide (ds.length ≤ 24)) = false := by
          by_cases h1 : 1 ≤ ds.length
          · have h2 : ¬ ds.length ≤ 24 := fun z => hb ⟨h1, z⟩
            simp [h2]
          · simp [h1]
        simp [okP, this]
end K

namespace K
open PySem PySem.Spec PyProof.Rows L2 DL DX PL
/-- the things that law tries -/
abbrev odd1 (k : Nat) (p : List Nat) : List S :=
  [.q true (dN p ++ [.int p.length]), .q true (cutD (dN p) (some 1) none), .q true (dN p ++ cutD (dN p) none (some 1)), .q true (cutD (dN p) none (some (-1)) ++ [.int p.length]), .q true (cutD (dN p) none (some (-1)) ++ [.int (-1)]), .p k, .q true []]
abbrev odd2 (p : List Nat) : List S :=
  [.q true (cutD (dN p) none (some (-1)) ++ [.bool true]), .q true [.bool false], .q true [.int 0], .q true (rgD 24), .q true (rgD 25), .d .none, .d (.int 5), .d (.str "ab"), .d (.tuple [tN p])]
def oddS (k : Nat) (p : List Nat) : List S := odd1 k p ++ odd2 p
theorem cut_mem {ds : List PyData} {lo hi : Option Int} {d : PyData} (h : d ∈ cutD ds lo hi) : d ∈ ds := List.mem_of_mem_drop (List.mem_of_mem_take h)
theorem cut_len (ds : List PyData) (lo hi : Option Int) : (cutD ds lo hi).length ≤ ds.length := by
  unfold DL.cutD
  rw [List.length_take, List.length_drop]
  omega
def smi (ds : List PyData) : Prop := ∀ d ∈ ds, Sm d 0 40
theorem smi.sm {ds : List PyData} (h : smi ds) (hl : ds.length ≤ 26) : Sm (.tuple ds) 3 1100 := (SmL.all h).tuple.mono (by omega) (by omega)
theorem smi.app {ds es : List PyData} (h : smi ds) (g : smi es) : smi (ds ++ es) := fun d hd => by
  rcases List.mem_append.mp hd with z | z
  · exact h d z
  · exact g d z
theorem smi.one {d : PyData} (h : Sm d 0 40) : smi [d] := fun x hx => by
  cases List.mem_singleton.mp hx
  exact h
theorem smi.dN {p : List Nat} (h : ∀ x ∈ p, x < 10 ^ 12) : smi (dN p) := fun d hd => by
  obtain ⟨x, hx, rfl⟩ := List.mem_map.mp hd
  exact Sm.int (by have := h x hx; omega)
theorem smi.cut {ds : List PyData} (h : smi ds) (lo hi : Option Int) : smi (cutD ds lo hi) := fun d hd => h d (cut_mem hd)
theorem smi.rg {n : Nat} (h : n ≤ 1000) : smi (rgD n) := smi.dN (big12 h fun x hx => List.mem_range.mp hx)
/-- a thing: what it is as data; what is a permutation is a plain tuple -/
structure Odd (k : Nat) (p : List Nat) (s : S) (d : PyData) : Prop where
  dt : ∀ M : Sto, M[k]? = some (.lst (sN p)) → Dt M s d
  sm : Sm d 3 1100
  pl : okP d = true → ∃ q, s = .q true (dN q) ∧ d = tN q
  ks : s = .p k ∨ ∃ d, s = .d d ∨ ∃ ds, s = .q true ds
theorem odd_q {k : Nat} {p : List Nat} {ds : List PyData} (h : smi ds) (hl : ds.length ≤ 26) : Odd k p (.q true ds) (.tuple ds) :=
  ⟨fun M _ => .q ds, h.sm hl, fun q => by
    obtain ⟨p', e, _⟩ := okP_iff.mp q
    injection e with e
    subst e
    exact ⟨p', rfl, rfl⟩, .inr ⟨.none, .inr ⟨ds, rfl⟩⟩⟩
theorem odd_d {k : Nat} {p : List Nat} {d : PyData} (h : Sm d 3 1100) (hk : okP d = false) : Odd k p (.d d) d :=
  ⟨fun M _ => .d d, h, fun q => (by rw [hk] at q; cases q), .inr ⟨d, .inl rfl⟩⟩
theorem odd_ok (k : Nat) {p : List Nat} (hP : IsP p) (hl : p.length ≤ 12) : ∀ i, i < 16 → ∃ s d, (oddS k p)[i]? = some s ∧ Odd k p s d := by
  have hp : smi (dN p) := smi.dN (big12 (n := p.length) (by omega) hP.lt)
  have hdl : (dN p).length = p.length := List.length_map ..
  have hn : Sm (.int (p.length : Nat)) 0 40 := Sm.int (by
    have : (12 : Nat) < 10 ^ 12 := by decide
    omega)
  have c1 := cut_len (dN p) none (some (-1))
  have c2 := cut_len (dN p) none (some 1)
  have c3 := cut_len (dN p) (some 1) none
  intro i hi
  match i, hi with
  | 0, _ => exact ⟨_, _, rfl, odd_q (hp.app (.one hn)) (by simp; omega)⟩
  | 1, _ => exact ⟨_, _, rfl, odd_q (hp.cut _ _) (by omega)⟩
  | 2, _ => exact ⟨_, _, rfl, odd_q (hp.app (hp.cut _ _)) (by rw [List.length_append]; omega)⟩
  | 3, _ => exact ⟨_, _, rfl, odd_q ((hp.cut _ _).app (.one hn)) (by rw [List.length_append]; simp; omega)⟩
  | 4, _ => exact ⟨_, _, rfl, odd_q ((hp.cut _ _).app (.one (Sm.int (by decide)))) (by rw [List.length_append]; simp; omega)⟩
  | 5, _ => exact ⟨_, .list (dN p), rfl, ⟨fun M h => .l h rfl rfl, (SmL.all hp).list.mono (by omega) (by rw [hdl]; omega), fun q => (by cases q), .inl rfl⟩⟩
  | 6, _ => exact ⟨_, _, rfl, odd_q (fun d hd => by cases hd) (by simp)⟩
  | 7, _ => exact ⟨_, _, rfl, odd_q ((hp.cut _ _).app (.one ((Sm.bool true).mono (Nat.le_refl _) (by decide)))) (by rw [List.length_append]; simp; omega)⟩
  | 8, _ => exact ⟨_, _, rfl, odd_q (.one ((Sm.bool false).mono (Nat.le_refl _) (by decide))) (by simp)⟩
  | 9, _ => exact ⟨_, _, rfl, odd_q (.one (Sm.int (by decide))) (by simp)⟩
  | 10, _ => exact ⟨_, _, rfl, odd_q (smi.rg (by decide)) (by simp)⟩
  | 11, _ => exact ⟨_, _, rfl, odd_q (smi.rg (by decide)) (by simp)⟩
  | 12, _ => exact ⟨_, _, rfl, odd_d (Sm.none.mono (by decide) (by decide)) rfl⟩
  | 13, _ => exact ⟨_, _, rfl, odd_d ((Sm.int (by decide)).mono (by decide) (by decide)) rfl⟩
  | 14, _ => exact ⟨_, _, rfl, odd_d ((Sm.str (w := 2) (by decide +kernel) (by decide +kernel)).mono (by decide) (by decide)) rfl⟩
  | 15, _ => exact ⟨_, _, rfl, odd_d ((SmL.cons ((SmL.all hp).tuple.mono (k' := 2) (by omega) (w' := 1000) (by rw [hdl]; omega)) (SmL.nil.mono (k' := 2) (by decide) (Nat.le_refl _))).tuple.mono (by decide) (by decide)) (by simp [okP, tN, whole])⟩
  | n + 16, h => exact absurd h (Nat.not_lt.mpr (Nat.le_add_left 16 n))
theorem sc_l_odd : FnScope ["state", "perm", "some"] ["state", "perm"] (defScope s_l_odd) := ⟨rfl, rfl, rfl, by decide +kernel, rfl, by decide +kernel, by decide +kernel⟩
def Rl_odd : Rl := fun args M r M' => ∃ (st : St3) (p : List Nat), args = [.p 0, .q true (dN p)] ∧ IsP p ∧ p.length ≤ 12 ∧ 0 ≤ st.t ∧ st.t ≤ 90000000 ∧ M = [stM st] ∧ (oddS 1 p)[dgN st 16]? = some r ∧ M' = [stM (nx st 16), .lst (sN p)]
theorem ok_l_odd {m : Ms} (Z : Std m.mg) (D : FnD m 2 "_law_digit" ["state", "below"] Rdigit) (h : HasD m "_law_odd" s_l_odd ["state", "perm"]) : FnD m 3 "_law_odd" ["state", "perm"] Rl_odd := by
  refine fnD_of h sc_l_odd (by decide) ?_
  rintro args M r M' - ⟨st, p, rfl, hP, hl, t0, t1, rfl, hr, rfl⟩
  show BX (m.cs ["state", "perm", "some"] (defScope s_l_odd) 2) [some (.p 0), some (.q true (dN p)), none] [stM st] (defBody s_l_odd) _
  have hlen : ∀ {T : Sto}, Ln T (.q true (dN p)) p.length := fun {T} => by
    have := Ln.tup (M := T) (s := .q true (dN p)) (ss := sN p) rfl
    rwa [sN_len] at this
  have hdl : (dN p).length = p.length := List.length_map ..
  have c1 := cut_len (dN p) none (some (-1))
  have c2 := cut_len (dN p) none (some 1)
  refine bx_cons (sx_set 2 (r := .p 2) (M1 := [stM st, .lst (sN p), .lst (odd1 1 p)]) (ex_to (ex_list (rs := odd1 1 p) (M1 := [stM st, .lst (sN p)])
    (ea_cons (ex_bin (ex_var 1) (ex_tupB true (ea_cons (ex_len Z (ex_var 1) hlen) ea_nil) rfl (Nat.le_of_ble_eq_true rfl)) (os_catB (by simp; omega)))
    (ea_cons (ex_slTB (ex_var 1) (eo_some ex_int) eo_none)
    (ea_cons (ex_bin (ex_var 1) (ex_slTB (ex_var 1) eo_none (eo_some ex_int)) (os_catB (by omega)))
    (ea_cons (ex_bin (ex_slTB (ex_var 1) eo_none (eo_some (ex_neg ex_int))) (ex_tupB true (ea_cons (ex_len Z (ex_var 1) hlen) ea_nil) rfl (Nat.le_of_ble_eq_true rfl)) (os_catB (by simp; omega)))
    (ea_cons (ex_bin (ex_slTB (ex_var 1) eo_none (eo_some (ex_neg ex_int))) (ex_tupB true (ea_cons (ex_neg ex_int) ea_nil) rfl (Nat.le_of_ble_eq_true rfl)) (os_catB (by simp; omega)))
    (ea_cons (ex_list1 Z (ex_var 1) (.tup (s := .q true (dN p)) (ss := sN p) rfl))
    (ea_cons (ex_tupB true ea_nil rfl (Nat.zero_le _)) ea_nil))))))) (Nat.le_of_ble_eq_true rfl)) rfl rfl) ?_)
  refine bx_cons (sx_set 2 (r := .p 4) (M1 := [stM st, .lst (sN p), .lst (odd1 1 p), .lst (odd2 p), .lst (oddS 1 p)]) (ex_to (ex_bin (ex_var 2) (ex_list (rs := odd2 p) (M1 := [stM st, .lst (sN p), .lst (odd1 1 p)])
    (ea_cons (ex_bin (ex_slTB (ex_var 1) eo_none (eo_some (ex_neg ex_int))) (ex_tupB true (ea_cons ex_bool ea_nil) rfl (Nat.le_of_ble_eq_true rfl)) (os_catB (by simp; omega)))
    (ea_cons (ex_tupB true (ea_cons ex_bool ea_nil) rfl (Nat.le_of_ble_eq_true rfl))
    (ea_cons (ex_tupB true (ea_cons ex_int ea_nil) rfl (Nat.le_of_ble_eq_true rfl))
    (ea_cons (ex_tupRg true (n := 24) Z ex_int)
    (ea_cons (ex_tupRg true (n := 25) Z ex_int)
    (ea_cons ex_none
    (ea_cons ex_int
    (ea_cons ex_str
    (ea_cons (ex_to (ex_tup (ea_cons (ex_var 1) ea_nil) (Nat.le_of_ble_eq_true rfl)) rfl rfl) ea_nil))))))))) (Nat.le_of_ble_eq_true rfl)) (os_cat (xs := odd1 1 p) (ys := odd2 p) rfl rfl (Nat.le_of_ble_eq_true rfl))) rfl rfl) ?_)
  obtain ⟨hi, hie⟩ := dgN_lt (st := st) (b := 16) (by decide)
  obtain ⟨s, d, hs, hodd⟩ := odd_ok 1 hP hl _ hi
  rw [hs] at hr
  cases hr
  refine bx_one (sx_ret (r := r) (M1 := [stM (nx st 16), .lst (sN p), .lst (odd1 1 p), .lst (odd2 p), .lst (oddS 1 p)]) (ex_ixL (k := 4) (i := ((dgN st 16 : Nat) : Int)) (m := .lst (oddS 1 p)) (ex_var 2) (ex_to (ex_digit (k := 0) (st := st) (b := 16) D (ex_var 0) ex_int rfl (by decide) (by decide) t0 (by omega)) (by rw [show dg st 16 = (dgN st 16 : Int) from hie]) rfl) rfl rfl (DL.atI_nat hs)) ?_)
  refine fin_pre (k := 2) (Nat.le_succ 1) (Nat.le_of_ble_eq_true rfl) rfl ⟨loM_mono (Nat.zero_le _) (stM_lo _), sN_lo _ _, trivial⟩ ?_
  rcases hodd.ks with rfl | ⟨d, rfl | ⟨ds, rfl⟩⟩
  · exact Nat.lt_succ_self 1
  · trivial
  · trivial
end K

namespace K
open PySem PySem.Spec PyProof.Rows L2 DL DX PL
/-- how the own classes are to one another -/
structure XH (m : Ms) (CP CN CH : Addr) : Prop where
  gP : m.mg "BadPerm" = some (.ref CP)
  gN : m.mg "BadNumber" = some (.ref CN)
  gH : m.mg "HomeError" = some (.ref CH)
  gV : m.mg "ValueError" = none
  eP : PySem.W.exmOne m.K (.ref CP) (.ref CH) = some true
  eN : PySem.W.exmOne m.K (.ref CN) (.ref CH) = some true
  PP : PySem.W.kitOne m.K (.ref CP) (.ref CP) = some true
  PV : PySem.W.kitOne m.K (.ref CP) (.type "ValueError") = some true
  NP : PySem.W.kitOne m.K (.ref CN) (.ref CP) = some false
  NN : PySem.W.kitOne m.K (.ref CN) (.ref CN) = some true
  G : XqG m.K
section
variable {c : Cs} {Γ : Gm} {M M1 : Sto} {e : Expr} {p p2 pos : Pos} {k j : Nat} {C D : Addr} {fs : List (Str × S)} {x : Str} {b : Bool} {n : String}
theorem ex_iskG (Z : Std c.mg) (T : XqC c.K C) (G : XqG c.K) (he : EX c Γ M e (.p k) M1) (h1 : M1[k]? = some (.xk C (.p j))) (h2 : M1[j]? = some (.xd fs)) (hm : c.mg x = some (.ref D)) (hb : PySem.W.kitOne c.K (.ref C) (.ref D) = some b)
    (hg : c.sc.names.lookup ("isinstance" : Str) = some gI := by rfl) (hx : c.sc.names.lookup x = some gI := by rfl) (hd : (x == ("__debug__" : Str)) = false := by decide) (hs : ∀ env, starEach [e, .Name x p2] env = (false, eval e env) :: starEach [.Name x p2] env := by intro _; rfl) :
    EX c Γ M (.Call (.Name "isinstance" p) [e, .Name x p2] [] pos) (.d (.bool b)) M1 :=
  ex_callB (cs_isk T G h1 h2 (.own D) hb) (ea_cons he (ea_cons (ex_glob hx hm (v := .ref D) rfl (fun _ _ => .v _) hd) ea_nil (fun _ => rfl)) hs) Z.isi boot_isinstance hg (he := hs)
theorem ex_iskT (Z : Std c.mg) (T : XqC c.K C) (G : XqG c.K) (he : EX c Γ M e (.p k) M1) (h1 : M1[k]? = some (.xk C (.p j))) (h2 : M1[j]? = some (.xd fs)) (hm : c.mg x = none) (hbb : bootBuiltins x = some (.type n)) (hb : PySem.W.kitOne c.K (.ref C) (.type n) = some b)
    (hg : c.sc.names.lookup ("isinstance" : Str) = some gI := by rfl) (hx : c.sc.names.lookup x = some gI := by rfl) (hn : x ≠ "__name__" := by decide) (hd : (x == ("__debug__" : Str)) = false := by decide) (hs : ∀ env, starEach [e, .Name x p2] env = (false, eval e env) :: starEach [.Name x p2] env := by intro _; rfl) :
    EX c Γ M (.Call (.Name "isinstance" p) [e, .Name x p2] [] pos) (.d (.bool b)) M1 :=
  ex_callB (cs_isk T G h1 h2 (.ty n) hb) (ea_cons he (ea_cons (ex_blt hx hm hbb (v := .ty n) rfl hn hd) ea_nil (fun _ => rfl)) hs) Z.isi boot_isinstance hg (he := hs)
end
abbrev NT : List Str := ["deed", "e", "found", "error"]
theorem sc_l_told : FnScope NT ["deed"] (defScope s_l_told) := ⟨rfl, rfl, rfl, by decide +kernel, rfl, by decide +kernel, by decide +kernel⟩
section
variable {m : Ms} {CP CN CH : Addr} {M : Sto} {k : Nat}
theorem told_val {r0 : S} (H : XH m CP CN CH) (lo : loMs M.length M) (hr : loS M.length r0) : ToldS m s_l_told "deed" NT k (.val r0) M M (.p M.length) (M ++ [.lst [r0]]) := by
  intro en px f hp hpx hcall
  show BX (cTd m NT (defScope s_l_told) k en px) [some (.v (.ref f)), none, none, none] M (defBody s_l_told) _
  refine bx_cons (sx_asg (r := .d (.tuple [.none, .none])) (M1 := M) (ex_to (ex_tup (ea_cons ex_none (ea_cons ex_none ea_nil)) (Nat.le_of_ble_eq_true rfl)) rfl rfl) (gx_tup rfl (gxs_cons (gx_name 1) (gxs_cons (gx_name 2) gxs_nil))) ?_ (hw := by
    intro env he
    cases env
    cases he
    rfl))
  refine bx_cons (sx_try hp hpx (.cons rfl rfl (.inl H.gH) (i := 3) rfl rfl .nil) (fun _ _ h => h) (fun _ _ h => h) (bx_one (sx_set 2 (hcall _ _ _ rfl) ?_)))
  refine bx_cons (sx_if (q := true) (M1 := M) (et_to (et_cmp (ex_var 1) ex_none os_is (by with_unfolding_all rfl)) rfl rfl) (fun _ => ?_) (fun q => by cases q))
  refine bx_one (sx_ret (ex_list (ea_cons (ex_var 2) ea_nil) (Nat.le_of_ble_eq_true rfl)) (fin_all (by simp) ?_ (by simp [loS])))
  rw [List.length_append]
  exact loMs_app (loMs_mono (Nat.le_add_right _ _) lo) ⟨⟨loS_mono (Nat.le_add_right _ _) hr, trivial⟩, trivial⟩
theorem mkT_lo {n : Nat} {v : S} {x : Str} (h : loS n v) : loS n (mkT [.d (.str x), v]) := by
  unfold mkT
  split
  · trivial
  · exact ⟨trivial, h, trivial⟩
theorem xk_at0 {C : Addr} {v : S} : (M ++ [MO.xd [("value", v)]] ++ [.xk C (.p M.length)])[M.length]? = some (.xd [("value", v)]) := by
  rw [List.append_assoc, List.getElem?_append_right (Nat.le_refl _), Nat.sub_self]
  rfl
theorem xk_at1 {C : Addr} {v : S} : (M ++ [MO.xd [("value", v)]] ++ [.xk C (.p M.length)])[(M ++ [MO.xd [("value", v)]]).length]? = some (.xk C (.p M.length)) := by
  rw [List.getElem?_append_right (Nat.le_refl _), Nat.sub_self]
  rfl
theorem fin_xk {r : S} {C : Addr} {v : S} (lo : loMs M.length M) (hr : loS M.length r) : DL.Fin M.length r (M ++ [MO.xd [("value", v)]] ++ [.xk C (.p M.length)]) r M :=
  fin_lo (by simp) (by rw [List.append_assoc]; simp) lo hr
theorem told_P {v : S} (Z : Std m.mg) (B : XB m CP CN) (H : XH m CP CN CH) (lo : loMs M.length M) (hv : loS M.length v) : ToldS m s_l_told "deed" NT k (.exc CP M.length) M (M ++ [.xd [("value", v)]]) (mkT [.d (.str "perm"), v]) M := by
  intro en px f hp hpx hcall
  show BX (cTd m NT (defScope s_l_told) k en px) [some (.v (.ref f)), none, none, none] M (defBody s_l_told) _
  refine bx_cons (sx_asg (r := .d (.tuple [.none, .none])) (M1 := M) (ex_to (ex_tup (ea_cons ex_none (ea_cons ex_none ea_nil)) (Nat.le_of_ble_eq_true rfl)) rfl rfl) (gx_tup rfl (gxs_cons (gx_name 1) (gxs_cons (gx_name 2) gxs_nil))) ?_ (hw := by
    intro env he
    cases env
    cases he
    rfl))
  refine bx_cons (sx_try hp hpx (.cons rfl rfl (.inl H.gH) (i := 3) rfl rfl .nil) (fun _ _ h => h) (fun _ _ h => h) (bx_one (sx_setR 2 (hcall _ _ _ rfl) ⟨true, H.eP, fun _ => hs_set 1 (he_var 3) ?_, fun q => by cases q⟩)))
  refine bx_cons (sx_if (q := false) (M1 := M ++ [.xd [("value", v)]] ++ [.xk CP (.p M.length)]) (et_to (et_cmp (ex_var 1) ex_none os_is (by with_unfolding_all rfl)) rfl rfl) (fun q => by cases q) (fun _ => bx_nil ?_))
  refine bx_cons (sx_if (q := true) (M1 := M ++ [.xd [("value", v)]] ++ [.xk CP (.p M.length)]) (et_w (ew_andT (et_val (ex_iskG Z B.qP H.G (ex_var 1) xk_at1 xk_at0 H.gP H.PP)) (ew_and1 (et_val (ex_iskT Z B.qP H.G (ex_var 1) xk_at1 xk_at0 H.gV (by decide +kernel) H.PV))))) (fun _ => ?_) (fun q => by cases q))
  exact bx_one (sx_ret (ex_tup (ea_cons ex_str (ea_cons (ex_xk B.qP B.fP (ex_var 1) xk_at1 xk_at0 rfl) ea_nil)) (Nat.le_of_ble_eq_true rfl)) (fin_xk lo (mkT_lo hv)))
theorem told_N {v : S} (Z : Std m.mg) (B : XB m CP CN) (H : XH m CP CN CH) (lo : loMs M.length M) (hv : loS M.length v) : ToldS m s_l_told "deed" NT k (.exc CN M.length) M (M ++ [.xd [("value", v)]]) (mkT [.d (.str "number"), v]) M := by
  intro en px f hp hpx hcall
  show BX (cTd m NT (defScope s_l_told) k en px) [some (.v (.ref f)), none, none, none] M (defBody s_l_told) _
  refine bx_cons (sx_asg (r := .d (.tuple [.none, .none])) (M1 := M) (ex_to (ex_tup (ea_cons ex_none (ea_cons ex_none ea_nil)) (Nat.le_of_ble_eq_true rfl)) rfl rfl) (gx_tup rfl (gxs_cons (gx_name 1) (gxs_cons (gx_name 2) gxs_nil))) ?_ (hw := by
    intro env he
    cases env
    cases he
    rfl))
  refine bx_cons (sx_try hp hpx (.cons rfl rfl (.inl H.gH) (i := 3) rfl rfl .nil) (fun _ _ h => h) (fun _ _ h => h) (bx_one (sx_setR 2 (hcall _ _ _ rfl) ⟨true, H.eN, fun _ => hs_set 1 (he_var 3) ?_, fun q => by cases q⟩)))
  refine bx_cons (sx_if (q := false) (M1 := M ++ [.xd [("value", v)]] ++ [.xk CN (.p M.length)]) (et_to (et_cmp (ex_var 1) ex_none os_is (by with_unfolding_all rfl)) rfl rfl) (fun q => by cases q) (fun _ => bx_nil ?_))
  refine bx_cons (sx_if (q := false) (M1 := M ++ [.xd [("value", v)]] ++ [.xk CN (.p M.length)]) (et_w (ew_andF (et_val (ex_iskG Z B.qN H.G (ex_var 1) xk_at1 xk_at0 H.gP H.NP)))) (fun q => by cases q) (fun _ => bx_nil ?_))
  exact bx_one (sx_ret (ex_if (q := true) (et_val (ex_iskG Z B.qN H.G (ex_var 1) xk_at1 xk_at0 H.gN H.NN)) (fun _ => ex_tup (ea_cons ex_str (ea_cons (ex_xk B.qN B.fN (ex_var 1) xk_at1 xk_at0 rfl) ea_nil)) (Nat.le_of_ble_eq_true rfl)) (fun q => by cases q)) (fin_xk lo (mkT_lo hv)))
end
end K

namespace K
open PySem PySem.Spec PyProof.Rows L2 DL DX PL
abbrev NL : List Str := ["script", "k", "cell", "state", "size", "one", "other", "times", "odd", "number", "due", "told", "same", "first", "second", "third", "last", "far"]
theorem sc_law : FnScope NL ["script"] (defScope s_law) := ⟨rfl, rfl, rfl, by decide +kernel, rfl, by decide +kernel, by decide +kernel⟩
structure FA (m : Ms) (CP CN CH : Addr) : Prop where
  Z : Std m.mg
  B : XB m CP CN
  H : XH m CP CN CH
  dr : FnD m 1 "_law_draw" ["cell", "k"] Rdraw
  dg : FnD m 2 "_law_digit" ["state", "below"] Rdigit
  np : FnX m 3 "need_perm" ["perm"] (RneedP CP)
  th : FnX m 5 "then" ["one", "other"] (Rthen CP)
  ba : FnX m 4 "back" ["perm"] (Rback CP)
  id : FnX m 4 "identity" ["size"] (Rid CN)
  po : FnX m 4 "power" ["perm", "times"] (Rpower CP CN)
  lt : FnD m 1 "_law_then" ["one", "other"] Rthen0
  lb : FnD m 1 "_law_back" ["perm"] Rl_back
  lp : FnD m 3 "_law_perm" ["state", "size"] Rl_perm
  li : FnD m 1 "_law_is_perm" ["thing"] Rl_is_perm
  lo : FnD m 3 "_law_odd" ["state", "perm"] Rl_odd
  lw : FnD m 1 "_law_power" ["perm", "times"] Rl_power
  tl : HasD m "_law_told" s_l_told ["deed"]
abbrev cW (m : Ms) (a : Addr) (ns : List Int) : Cs := m.csW NL (defScope s_law) 7 (entS m.K a ns)
abbrev g18 (a : Addr) (k cell size : Int) (one other : List Nat) (t od nu du to sa fi se th la fa : Option S) : Gm :=
  [some (.v (.ref a)), some (.d (.int k)), some (.d (.int cell)), some (.p 3), some (.d (.int size)), some (.q true (dN one)), some (.q true (dN other)), t, od, nu, du, to, sa, fi, se, th, la, fa]
abbrev turnB : List Stmt := forBody ((defBody s_law).getD 0 (.Pass ⟨0, 0, 0, 0⟩))
section
variable {m : Ms} {CP CN CH : Addr} {a : Addr} {ns : List Int} {A0 A1 A2 : MO} {N : Nd}
theorem lt12 {p : List Nat} (h : IsP p) (hl : p.length ≤ 24) : ∀ x ∈ p, x < 10 ^ 12 := big12 (n := p.length) (by omega) h.lt
theorem okP_of {p : List Nat} (h : IsP p) (hl : p.length ≤ 24) : okP (tN p) = true := okP_tN.mpr ⟨h, hl⟩
theorem okPn_of {p q : List Nat} (h : IsP q) (hl : q.length ≤ 24) (e : q.length = p.length) : okPn p.length (tN q) = true := by
  simp only [okPn, okP_of h hl, Bool.true_and, decide_eq_true_eq, lenD_tN]
  omega
theorem lo4 (hA : loMs 0 [A0, A1, A2]) (st : St3) : loMs 4 [A0, A1, A2, stM st] := ⟨loM_mono (Nat.zero_le _) hA.1, loM_mono (Nat.zero_le _) hA.2.1, loM_mono (Nat.zero_le _) hA.2.2.1, loM_mono (Nat.zero_le _) (stM_lo st), trivial⟩
/-- the seven times -/
theorem p_pow (F : FA m CP CN CH) (hA : loMs 0 [A0, A1, A2]) {k cell size : Int} {one other : List Nat} {st : St3} (h1 : IsP one) (l1 : one.length ≤ 12) (t0 : 0 ≤ st.t) (t1 : st.t ≤ 1000000)
    (hN : ∀ z, N.nx (g18 a k cell size one other z none none none none none none none none none none) [A0, A1, A2, stM (nx (nx st 9) 2000001)]) :
    SX (cW m a ns) (g18 a k cell size one other none none none none none none none none none none none) [A0, A1, A2, stM st] (turnB.getD 5 (.Pass ⟨0, 0, 0, 0⟩)) N := by
  have e9 := dg_b st (b := 9) (by decide)
  have hn := nx_t st 9
  have eB := dg_b (nx st 9) (b := 2000001) (by decide)
  let ts : List Int := [0, 1, -1, dg st 9 - 4, dg (nx st 9) 2000001 - 1000000, 1000000, -1000000]
  have hts : ∀ t ∈ ts, -1000000 ≤ t ∧ t ≤ 1000000 := fun t ht => by
    simp only [ts, List.mem_cons, List.not_mem_nil, or_false] at ht
    rcases ht with rfl | rfl | rfl | rfl | rfl | rfl | rfl <;> omega
  refine sx_for (ix_tup' (ss := (ts.map PyData.int).map S.d) (s := .d (.tuple (ts.map PyData.int))) (M1 := [A0, A1, A2, stM (nx (nx st 9) 2000001)]) (ex_to (ex_tup (ea_cons ex_int (ea_cons ex_int (ea_cons (ex_neg ex_int) (ea_cons (ex_bin (ex_digit (k := 3) (st := st) F.dg (ex_var 3) ex_int rfl (by decide) (by decide) t0 (by omega)) ex_int os_sub) (ea_cons (ex_bin (ex_digit (k := 3) (st := nx st 9) F.dg (ex_var 3) ex_int rfl (by decide) (by decide) (by omega) (by omega)) ex_int os_sub) (ea_cons ex_int (ea_cons (ex_neg ex_int) ea_nil))))))) (Nat.le_of_ble_eq_true rfl)) rfl rfl) rfl) (fun _ Γ M => ∃ z, Γ = g18 a k cell size one other z none none none none none none none none none none ∧ M = [A0, A1, A2, stM (nx (nx st 9) 2000001)]) ⟨_, Fg.refl _, none, rfl, rfl⟩ (fun _ _ _ _ _ => trivial) ?_ ?_
  · rintro j Γ M hj ⟨z, rfl, rfl⟩
    have hj' : j < ts.length := by simpa using hj
    have e : ((ts.map PyData.int).map S.d).getD j (.d .none) = .d (.int ts[j]) := by simp [List.getD, hj']
    rw [e]
    obtain ⟨b1, b2⟩ := hts _ (List.getElem_mem hj')
    generalize ts[j] = t at b1 b2
    refine ⟨_, _, gx_name 7, ?_⟩
    refine bx_one (sx_if (q := false) (M1 := [A0, A1, A2, stM (nx (nx st 9) 2000001)]) (et_to (et_cmp (ex_callX [] F.po (ea_cons (ex_var 5) (ea_cons (ex_var 7) ea_nil)) (Rpower.ok (M := []) true (.q (dN one)) trivial (okP_of h1 (by omega)) b1 b2) (proj_0 ⟨trivial, trivial, trivial⟩ trivial) rfl) (ex_call [] F.lw (ea_cons (ex_q (ex_var 5)) (ea_cons (ex_var 7) ea_nil)) ⟨one, t, rfl, h1, by omega, rfl, rfl, rfl⟩ (proj_0 ⟨trivial, trivial, trivial⟩ trivial) rfl) (os_neT (p := powL one t) (q := lawPow one t) (.q _) (.q _) ?_ ?_) (nomark _)) (by rw [pow_eq h1]; simp) rfl) (fun q => by cases q) (fun _ => bx_nil ?_))
    · rw [pow_eq h1]
      refine big12 (n := one.length) (by omega) fun x hx => ?_
      obtain ⟨y, hy, rfl⟩ := List.mem_map.mp hx
      exact itr_lt h1 (List.mem_range.mp hy) _
    · refine big12 (n := one.length) (by omega) fun x hx => ?_
      obtain ⟨y, hy, rfl⟩ := List.mem_map.mp hx
      exact itr_lt h1 (List.mem_range.mp hy) _
    · exact nxt_of (n := 4) (Γ' := g18 a k cell size one other none none none none none none none none none none none) (M' := [A0, A1, A2, stM (nx (nx st 9) 2000001)]) (Nat.le_refl _) rfl (lo4 hA _) ⟨rfl, rfl, rfl, rfl, rfl, rfl, rfl, trivial⟩ ⟨trivial, trivial, trivial, Nat.le_of_ble_eq_true rfl, trivial, trivial, trivial, trivial⟩ ⟨none, rfl, rfl⟩
  · rintro Γ M ⟨z, rfl, rfl⟩
    exact hN z
end
end K

namespace K
open PySem PySem.Spec PyProof.Rows L2 DL DX PL
abbrev g3 (a : Addr) (k cell : Int) : Gm := [some (.v (.ref a)), some (.d (.int k)), some (.d (.int cell)), none, none, none, none, none, none, none, none, none, none, none, none, none, none, none]
section
variable {m : Ms} {CP CN CH : Addr} {a : Addr} {ns : List Int} {A0 A1 A2 : MO} {N : Nd}
theorem p_front (F : FA m CP CN CH) (hA : loMs 0 [A0, A1, A2]) {k : Nat} {cell : Int} (hk : k ≤ 4)
    (hN : ∀ (n : Nat) (one other : List Nat) (st : St3) z, IsP one → one.length = n → 1 ≤ n → n ≤ 12 → 0 ≤ st.t → st.t ≤ 900000 → BX (cW m a ns) (g18 a k cell n one other z none none none none none none none none none none) [A0, A1, A2, stM st] (turnB.drop 6) N) :
    BX (cW m a ns) (g3 a k cell) [A0, A1, A2] turnB N := by
  have ht0 : (st0 cell k).t = 1000 * (k : Int) := rfl
  refine bx_cons (sx_set 3 (r := .p 3) (M1 := [A0, A1, A2, stM (st0 cell k)]) (ex_call [] F.dr (ea_cons (ex_var 2) (ea_cons (ex_var 1) ea_nil)) ⟨cell, (k : Int), rfl, by omega, by omega, rfl, rfl, rfl⟩ (proj_n (ds := [.int cell, .int (k : Int)]) (loM.ren (fun k h => absurd h (Nat.not_lt_zero _)) (stM_lo _))) rfl) ?_)
  have n1 := nx_t (st0 cell k) 12
  obtain ⟨hi, hie⟩ := dgN_lt (st := st0 cell k) (b := 12) (by decide)
  generalize hnn : 1 + dgN (st0 cell k) 12 = n
  have e12 : dg (st0 cell k) 12 = (dgN (st0 cell k) 12 : Int) := hie
  refine bx_cons (sx_set 4 (r := .d (.int (n : Nat))) (M1 := [A0, A1, A2, stM (nx (st0 cell k) 12)]) (ex_to (ex_bin ex_int (ex_digit (k := 3) (st := st0 cell k) (b := 12) F.dg (ex_var 3) ex_int rfl (by decide) (by decide) (by omega) (by omega)) os_add) (by rw [e12, ← hnn]; rfl) rfl) ?_)
  obtain ⟨st1, hst1⟩ : ∃ st1, st1 = nx (st0 cell k) 12 := ⟨_, rfl⟩
  rw [← hst1] at n1 ⊢
  have p1 := permF_t st1 n
  have i1 := permF_isP (n := n) (by omega) st1
  obtain ⟨pr, hpr⟩ : ∃ pr, pr = permF st1 n := ⟨_, rfl⟩
  obtain ⟨st2, one⟩ := pr
  rw [← hpr] at p1 i1
  dsimp only at p1 i1
  have p2 := permF_t st2 n
  obtain ⟨pr2, hpr2⟩ : ∃ pr2, pr2 = permF st2 n := ⟨_, rfl⟩
  obtain ⟨st3, other⟩ := pr2
  rw [← hpr2] at p2
  dsimp only at p2
  obtain ⟨h1, l1⟩ := i1
  refine bx_cons (sx_asg (r := .t [.q true (dN one), .q true (dN other)]) (M1 := [A0, A1, A2, stM st3]) (ex_tupT (ea_cons (M1 := [A0, A1, A2, stM st2]) (ex_call [3] F.lp (ea_cons (ex_var 3) (ea_cons (ex_var 4) ea_nil)) (r' := .q true (dN one)) (Mc' := [stM st2]) ⟨st1, n, rfl, by omega, by omega, by omega, by omega, rfl, by rw [← hpr], by rw [← hpr]⟩ (proj_1 (m := stM st1) (m' := stM st2) rfl (stM_lo _) (stM_lo _) (.cons (.p (inR1 3)) (.cons (.d _) .nil)) trivial) rfl) (ea_cons (M1 := [A0, A1, A2, stM st3]) (ex_call [3] F.lp (ea_cons (ex_var 3) (ea_cons (ex_var 4) ea_nil)) (r' := .q true (dN other)) (Mc' := [stM st3]) ⟨st2, n, rfl, by omega, by omega, by omega, by omega, rfl, by rw [← hpr2], by rw [← hpr2]⟩ (proj_1 (m := stM st2) (m' := stM st3) rfl (stM_lo _) (stM_lo _) (.cons (.p (inR1 3)) (.cons (.d _) .nil)) trivial) rfl) ea_nil)) (Nat.le_of_ble_eq_true rfl)) (gx_tup rfl (gxs_cons (gx_name 5) (gxs_cons (gx_name 6) gxs_nil))) ?_ (hw := by
    intro env he
    cases env
    cases he
    rfl))
  have i2 := permF_isP (n := n) (by omega) st2
  rw [← hpr2] at i2
  dsimp only at i2
  obtain ⟨h2, l2⟩ := i2
  have ok1 := okP_of h1 (by omega)
  have hb := h1.back
  have hbl := backL_len one
  show BX (cW m a ns) (g18 a k cell n one other none none none none none none none none none none none) [A0, A1, A2, stM st3] _ N
  refine bx_cons (sx_if (q := false) (M1 := [A0, A1, A2, stM st3]) (et_w (ew_orF (M1 := [A0, A1, A2, stM st3]) ?_ (ew_orF (M1 := [A0, A1, A2, stM st3]) ?_ (ew_or1 ?_)))) (fun q => by cases q) (fun _ => bx_nil ?_))
  · exact et_to (et_cmp (ex_callX [] F.np (ea_cons (ex_var 5) ea_nil) (RneedP.ok (M := []) (.q (dN one)) trivial ok1) (proj_0 ⟨trivial, trivial⟩ trivial) rfl) ex_none os_isnot (by with_unfolding_all rfl)) rfl rfl
  · refine et_to (et_cmp (ex_callX [] F.th (ea_cons (ex_var 5) (ea_cons (ex_var 6) ea_nil)) (Rthen.ok (M := []) true (.q (dN one)) (.q (dN other)) trivial ok1 (okPn_of h2 (by omega) (by omega))) (proj_0 ⟨trivial, trivial, trivial⟩ trivial) rfl) (ex_call [] F.lt (ea_cons (ex_q (ex_var 5)) (ea_cons (ex_q (ex_var 6)) ea_nil)) ⟨one, other, true, rfl, fun x hx => by rw [l2, ← l1]; exact h1.lt x hx, by omega, rfl, rfl, rfl⟩ (proj_0 ⟨trivial, trivial, trivial⟩ trivial) rfl) (os_neT (p := thenL one other) (q := thenL one other) (.q _) (.q _) ?_ ?_) (nomark _)) (by simp) rfl <;> exact lt12 (h1.then h2 (by omega)) (by rw [thenL_len]; omega)
  · refine et_to (et_cmp (ex_callX [] F.ba (ea_cons (ex_var 5) ea_nil) (Rback.ok (M := []) true (.q (dN one)) trivial ok1) (proj_0 ⟨trivial, trivial⟩ trivial) rfl) (ex_call [] F.lb (ea_cons (ex_var 5) ea_nil) ⟨one, true, rfl, h1, by omega, rfl, rfl, rfl⟩ (proj_0 ⟨trivial, trivial⟩ trivial) rfl) (os_neT (p := backL one) (q := backL one) (.q _) (.q _) ?_ ?_) (nomark _)) (by simp) rfl <;> exact lt12 hb (by omega)
  have hr : IsP (List.range n) := IsP.range (by omega)
  have hrl : (List.range n).length = n := List.length_range
  refine bx_cons (sx_if (q := false) (M1 := [A0, A1, A2, stM st3]) (et_w (ew_orF (M1 := [A0, A1, A2, stM st3]) ?_ (ew_or1 ?_))) (fun q => by cases q) (fun _ => bx_nil ?_))
  · refine et_to (et_cmp (ex_callX [] F.id (ea_cons (ex_var 4) ea_nil) (Rid.ok true (by omega) (by omega)) (proj_0 ⟨trivial, trivial⟩ trivial) rfl) (ex_tupRg true F.Z (ex_var 4) (by omega)) (os_neT (p := List.range n) (q := List.range n) (.q _) (.q _) ?_ ?_) (nomark _)) (by simp) rfl <;> exact lt12 hr (by omega)
  · refine et_to (et_cmp (ex_callX [] F.th (ea_cons (ex_var 5) (ea_cons (ex_callX [] F.ba (ea_cons (ex_var 5) ea_nil) (Rback.ok (M := []) true (.q (dN one)) trivial ok1) (proj_0 ⟨trivial, trivial⟩ trivial) rfl) ea_nil)) (Rthen.ok (M := []) true (.q (dN one)) (.q (dN (backL one))) trivial ok1 (okPn_of hb (by omega) hbl)) (proj_0 ⟨trivial, trivial, trivial⟩ trivial) rfl) (ex_callX [] F.id (ea_cons (ex_var 4) ea_nil) (Rid.ok true (by omega) (by omega)) (proj_0 ⟨trivial, trivial⟩ trivial) rfl) (os_neT (p := thenL one (backL one)) (q := List.range n) (.q _) (.q _) ?_ ?_) (nomark _)) (by rw [then_back h1, l1]; simp) rfl
    · exact lt12 (h1.then hb hbl.symm) (by rw [thenL_len]; omega)
    · exact lt12 hr (by omega)
  have q1 := nx_t st3 9
  have q2 := nx_t (nx st3 9) 2000001
  exact bx_cons (p_pow F hA h1 (by omega) (by omega) (by omega) fun z => hN n one other _ z h1 l1 (by omega) (by omega) (by omega) (by omega))
end
end K

namespace K
open PySem PySem.Spec PyProof.Rows L2 DL DX PL
theorem rens_at {ρ : Nat → Option Nat} : ∀ {xs ys : List S} {i : Nat} {x : S}, Rens ρ xs ys → xs[i]? = some x → ∃ y, ys[i]? = some y ∧ Ren ρ x y
  | _, _, i, x, .nil, e => by simp at e
  | _, _, 0, x, .cons h _, e => by simp at e; subst e; exact ⟨_, rfl, h⟩
  | _, _, i + 1, x, .cons _ t, e => by
    obtain ⟨y, h1, h2⟩ := rens_at (i := i) t (by simpa using e)
    exact ⟨y, by simpa using h1, h2⟩
theorem odd_rens {ρ : Nat → Option Nat} {j k : Nat} (h : ρ j = some k) (p : List Nat) : Rens ρ (oddS j p) (oddS k p) :=
  .cons (.q _ _) (.cons (.q _ _) (.cons (.q _ _) (.cons (.q _ _) (.cons (.q _ _) (.cons (.p h) (.cons (.q _ _) (.cons (.q _ _) (.cons (.q _ _) (.cons (.q _ _) (.cons (.q _ _) (.cons (.q _ _) (.cons (.d _) (.cons (.d _) (.cons (.d _) (.cons (.d _) .nil)))))))))))))))
abbrev nums : List PyData := [.none, .bool true, .str "2", .int 1000001, .int (-1000001), .tuple [.int 1]]
theorem nums_ok : ∀ i, i < 6 → ∃ d, nums[i]? = some d ∧ whole d (-1000000) 1000000 = false ∧ Sm d 3 1100 := by
  intro i hi
  match i, hi with
  | 0, _ => exact ⟨_, rfl, rfl, Sm.none.mono (by decide) (by decide)⟩
  | 1, _ => exact ⟨_, rfl, rfl, (Sm.bool true).mono (by decide) (by decide)⟩
  | 2, _ => exact ⟨_, rfl, rfl, (Sm.str (w := 2) (by decide +kernel) (by decide +kernel)).mono (by decide) (by decide)⟩
  | 3, _ => exact ⟨_, rfl, by simp [whole], (Sm.int (by decide)).mono (by decide) (by decide)⟩
  | 4, _ => exact ⟨_, rfl, by simp [whole], (Sm.int (by decide)).mono (by decide) (by decide)⟩
  | 5, _ => exact ⟨_, rfl, rfl, (SmL.cons (Sm.int (by decide)) SmL.nil).tuple.mono (by decide) (by decide)⟩
  | n + 6, h => exact absurd h (Nat.not_lt.mpr (Nat.le_add_left 6 n))
section
variable {m : Ms} {CP CN CH : Addr} {a : Addr} {ns : List Int} {A0 A1 A2 : MO} {N : Nd}
abbrev m6 (A0 A1 A2 : MO) (st : St3) (one : List Nat) : Sto := [A0, A1, A2, stM st, .lst (sN one), .lst (nums.map S.d)]
theorem p_odd (F : FA m CP CN CH) {k cell : Int} {n : Nat} {one other : List Nat} {st : St3} {z : Option S} (h1 : IsP one) (l1 : one.length ≤ 12) (t0 : 0 ≤ st.t) (t1 : st.t ≤ 900000)
    (hN : ∀ st' s d e, Odd 4 one s d → whole e (-1000000) 1000000 = false → Sm e 3 1100 → 0 ≤ st'.t → st'.t ≤ 910000 → BX (cW m a ns) (g18 a k cell n one other z (some s) (some (.d e)) none none none none none none none none) (m6 A0 A1 A2 st' one) (turnB.drop 7) N) :
    BX (cW m a ns) (g18 a k cell n one other z none none none none none none none none none none) [A0, A1, A2, stM st] (turnB.drop 6) N := by
  obtain ⟨hi, hie⟩ := dgN_lt (st := st) (b := 16) (by decide)
  obtain ⟨s1, d1, e1, _⟩ := odd_ok 1 h1 l1 _ hi
  obtain ⟨s, hs, rs⟩ := rens_at (odd_rens (ρ := outR [3] 4) (j := 1) (k := 4) rfl one) e1
  obtain ⟨s2, d, e2, hodd⟩ := odd_ok 4 h1 l1 _ hi
  rw [hs] at e2
  cases e2
  have n1 := nx_t st 16
  obtain ⟨st2, hst2⟩ : ∃ st2, st2 = nx st 16 := ⟨_, rfl⟩
  rw [← hst2] at n1
  obtain ⟨hj, hje⟩ := dgN_lt (st := st2) (b := 6) (by decide)
  obtain ⟨e, he, hw, hsm⟩ := nums_ok _ hj
  have n2 := nx_t st2 6
  refine bx_cons (sx_asg (r := .t [s, .d e]) (M1 := m6 A0 A1 A2 (nx st2 6) one) (ex_tupT (ea_cons (M1 := [A0, A1, A2, stM st2, .lst (sN one)]) (ex_call [3] F.lo (ea_cons (ex_var 3) (ea_cons (ex_var 5) ea_nil)) (r' := s1) (Mc' := [stM st2, .lst (sN one)]) ⟨st, one, rfl, h1, l1, t0, by omega, rfl, e1, by rw [hst2]⟩ (proj_1n (m := stM st) (m' := stM st2) (n := .lst (sN one)) (n' := .lst (sN one)) rfl (stM_lo _) (stM_lo _) (.cons (.p (inR1 3)) (.cons (.q _ _) .nil)) rs (loM.ren (n := 0) (fun k h => absurd h (Nat.not_lt_zero _)) (sN_lo 0 one))) rfl) (ea_cons (M1 := m6 A0 A1 A2 (nx st2 6) one) (ex_ixL (k := 5) (i := ((dgN st2 6 : Nat) : Int)) (m := .lst (nums.map S.d)) (M1 := m6 A0 A1 A2 st2 one) (ex_to (ex_list (ea_cons ex_none (ea_cons ex_bool (ea_cons ex_str (ea_cons ex_int (ea_cons (ex_neg ex_int) (ea_cons (ex_to (ex_tup (ea_cons ex_int ea_nil) (Nat.le_of_ble_eq_true rfl)) rfl rfl) ea_nil)))))) (Nat.le_of_ble_eq_true rfl)) rfl rfl) (ex_to (ex_digit (k := 3) (st := st2) (b := 6) F.dg (ex_var 3) ex_int rfl (by decide) (by decide) (by omega) (by omega)) (by rw [show dg st2 6 = (dgN st2 6 : Int) from hje]) rfl) rfl rfl (DL.atI_nat (by rw [List.getElem?_map, he]; rfl))) ea_nil)) (Nat.le_of_ble_eq_true rfl)) (gx_tup rfl (gxs_cons (gx_name 8) (gxs_cons (gx_name 9) gxs_nil))) ?_ (hw := by
    intro env he
    cases env
    cases he
    rfl))
  exact hN _ s d e hodd hw hsm (by omega) (by omega)
end
end K

namespace K
open PySem PySem.Spec PyProof.Rows L2 DL DX PL LamX
/-- handed over beside the list at k -/
theorem Odd.dn {k : Nat} {p : List Nat} {s : S} {d : PyData} (h : Odd k p s d) : ∃ s', Ren (inR [k]) s s' ∧ Dt [.lst (sN p)] s' d ∧ ∀ n, Ren (outR [k] n) s' s := by
  have hd := h.dt (List.replicate k (.lst []) ++ [.lst (sN p)]) (by rw [List.getElem?_append_right (by simp)]; simp)
  rcases h.ks with e | ⟨x, e | ⟨ds, e⟩⟩
  · subst e
    refine ⟨.p 0, .p (inR1 k), ?_, fun n => .p (outR1 k n)⟩
    cases hd with
    | l h1 h2 h3 =>
      rw [List.getElem?_append_right (by simp), List.length_replicate, Nat.sub_self] at h1
      cases h1
      exact .l rfl h2 h3
  · subst e
    cases hd
    exact ⟨.d d, .d _, .d _, fun n => .d _⟩
  · subst e
    cases hd
    exact ⟨.q true ds, .q _ _, .q _, fun n => .q _ _⟩
theorem dg_mk {M : Sto} {s : S} {d : PyData} {x : Str} (h : Dt M s d) : Dg M (mkT [.d (.str x), s]) (.tuple [.str x, d]) := by
  cases h with
  | d => exact .d _
  | q ds => exact .d _
  | l h1 h2 h3 =>
    subst h3
    exact .t (.cons (.d _) (.cons (.l h1 h2 (DgL.data _)) .nil))
section
variable {m : Ms} {CP CN CH : Addr} {a : Addr} {ns : List Int} {A0 A1 A2 : MO} {N : Nd} {Γ : Gm} {M M1 M2 : Sto} {p lpos pos p1 p2 p3 p4 cp ap : Pos} {bo : Expr} {scope : Scope} {oc : Oc} {r s : S} {d e : PyData} {one : List Nat} {jn : Nat}
theorem tl0 (F : FA m CP CN CH) (L : lamSB (defScope s_law) scope = true) (hb : EOc (DL.cL (cW m a ns) scope 5) Γ M bo oc M1) (hs : ToldS m s_l_told "deed" NT 6 oc M M1 r M2) : EX (cW m a ns) Γ M (.Call (.Name "_law_told" p) [.Lambda par0 bo scope lpos] [] pos) r M2 :=
  ex_told0 lam_csW F.tl sc_l_told (by first | exact Or.inl rfl | exact Or.inr (Or.inl rfl) | exact Or.inr (Or.inr rfl)) L hb hs
theorem tl1 (F : FA m CP CN CH) (L : lamPB "x" (defScope s_law) scope = true) (hb : EOc (DL.cL (cW m a ns) scope 5) Γ M bo oc M1) (hs : ToldS m s_l_told "deed" NT 6 oc M M1 r M2) : EX (cW m a ns) Γ M (.Call (.Name "_law_told" p) [.Lambda (par1 "x" (.Constant (.int 0) jn cp) ap) bo scope lpos] [] pos) r M2 :=
  ex_told1 lam_csW F.tl sc_l_told (by first | exact Or.inl rfl | exact Or.inr (Or.inl rfl) | exact Or.inr (Or.inr rfl)) L (by show ("x" : Str) ∉ NL; decide) hb hs
variable (F : FA m CP CN CH) (lo : loMs M.length M) (hL : M[4]? = some (.lst (sN one))) (hO : Odd 4 one s d) (h8 : Γ[8]? = some (some s))
include F lo hL hO h8
theorem sl : loS M.length s := by
  have := hO.dt M hL
  exact this.lo
theorem np_ok (hk : okP d = true) (hv : Vis scope "odd") (hg : scope.names.lookup ("need_perm" : Str) = some gI) : EOc (DL.cL (cW m a ns) scope 5) Γ M (.Call (.Name "need_perm" p1) [.Name "odd" p2] [] p3) (.val (.d .none)) M := by
  obtain ⟨s', r1, dt', r2⟩ := hO.dn
  exact ex_callX [4] F.np (ea_cons (ex_var 8 rfl h8 hv) ea_nil) (RneedP.ok (M := [.lst (sN one)]) dt' ⟨sN_lo 0 one, trivial⟩ hk) (proj_1s hL (sN_lo 0 one) (.cons r1 .nil) trivial) rfl (Nat.le_of_ble_eq_true rfl) hg
theorem np_no (hk : okP d = false) (hv : Vis scope "odd") (hg : scope.names.lookup ("need_perm" : Str) = some gI) : EOc (DL.cL (cW m a ns) scope 5) Γ M (.Call (.Name "need_perm" p1) [.Name "odd" p2] [] p3) (.exc CP M.length) (M ++ [.xd [("value", s)]]) := by
  obtain ⟨s', r1, dt', r2⟩ := hO.dn
  exact er_call [4] F.np (ea_cons (ex_var 8 rfl h8 hv) ea_nil) (RneedP.no (M := [.lst (sN one)]) dt' ⟨sN_lo 0 one, trivial⟩ hk) (proj_1x hL (sN_lo 0 one) (.cons r1 .nil) (r2 _)) rfl (Nat.le_of_ble_eq_true rfl) hg
theorem th0_no (hk : okP d = false) (hv : Vis scope "odd") (hg : scope.names.lookup ("then" : Str) = some gI) : EOc (DL.cL (cW m a ns) scope 5) Γ M (.Call (.Name "then" p1) [.Name "odd" p2, .Constant .none jn p4] [] p3) (.exc CP M.length) (M ++ [.xd [("value", s)]]) := by
  obtain ⟨s', r1, dt', r2⟩ := hO.dn
  exact er_call [4] F.th (ea_cons (ex_var 8 rfl h8 hv) (ea_cons ex_none ea_nil)) (Rthen.no1 (M := [.lst (sN one)]) dt' (.d .none) ⟨sN_lo 0 one, trivial⟩ hk) (proj_1x hL (sN_lo 0 one) (.cons r1 (.cons (.d _) .nil)) (r2 _)) rfl (Nat.le_of_ble_eq_true rfl) hg
theorem th0_ok (hk : okP d = true) (hv : Vis scope "odd") (hg : scope.names.lookup ("then" : Str) = some gI) : EOc (DL.cL (cW m a ns) scope 5) Γ M (.Call (.Name "then" p1) [.Name "odd" p2, .Constant .none jn p4] [] p3) (.exc CP M.length) (M ++ [.xd [("value", .d .none)]]) := by
  obtain ⟨s', r1, dt', r2⟩ := hO.dn
  exact er_call [4] F.th (ea_cons (ex_var 8 rfl h8 hv) (ea_cons ex_none ea_nil)) (Rthen.no2 (M := [.lst (sN one)]) dt' (.d .none) ⟨sN_lo 0 one, trivial⟩ hk rfl) (proj_1x hL (sN_lo 0 one) (.cons r1 (.cons (.d _) .nil)) (.d _)) rfl (Nat.le_of_ble_eq_true rfl) hg
theorem ba_no (hk : okP d = false) (hv : Vis scope "odd") (hg : scope.names.lookup ("back" : Str) = some gI) : EOc (DL.cL (cW m a ns) scope 5) Γ M (.Call (.Name "back" p1) [.Name "odd" p2] [] p3) (.exc CP M.length) (M ++ [.xd [("value", s)]]) := by
  obtain ⟨s', r1, dt', r2⟩ := hO.dn
  exact er_call [4] F.ba (ea_cons (ex_var 8 rfl h8 hv) ea_nil) (Rback.no (M := [.lst (sN one)]) dt' ⟨sN_lo 0 one, trivial⟩ hk) (proj_1x hL (sN_lo 0 one) (.cons r1 .nil) (r2 _)) rfl (Nat.le_of_ble_eq_true rfl) hg
theorem ba_ok {q : List Nat} (hd : d = tN q) (hk : okP d = true) (hv : Vis scope "odd") (hg : scope.names.lookup ("back" : Str) = some gI) : EOc (DL.cL (cW m a ns) scope 5) Γ M (.Call (.Name "back" p1) [.Name "odd" p2] [] p3) (.val (.q true (dN (backL q)))) M := by
  subst hd
  obtain ⟨s', r1, dt', r2⟩ := hO.dn
  exact ex_callX [4] F.ba (ea_cons (ex_var 8 rfl h8 hv) ea_nil) (Rback.ok (M := [.lst (sN one)]) true dt' ⟨sN_lo 0 one, trivial⟩ hk) (proj_1s hL (sN_lo 0 one) (.cons r1 .nil) trivial) rfl (Nat.le_of_ble_eq_true rfl) hg
theorem po_no (h9 : Γ[9]? = some (some (.d e))) (hk : okP d = false) (hv : Vis scope "odd") (hv2 : Vis scope "number") (hg : scope.names.lookup ("power" : Str) = some gI) : EOc (DL.cL (cW m a ns) scope 5) Γ M (.Call (.Name "power" p1) [.Name "odd" p2, .Name "number" p4] [] p3) (.exc CP M.length) (M ++ [.xd [("value", s)]]) := by
  obtain ⟨s', r1, dt', r2⟩ := hO.dn
  exact er_call [4] F.po (ea_cons (ex_var 8 rfl h8 hv) (ea_cons (ex_var 9 rfl h9 hv2) ea_nil)) (Rpower.no1 (M := [.lst (sN one)]) dt' ⟨sN_lo 0 one, trivial⟩ hk) (proj_1x hL (sN_lo 0 one) (.cons r1 (.cons (.d _) .nil)) (r2 _)) rfl (Nat.le_of_ble_eq_true rfl) hg
theorem po_ok (h9 : Γ[9]? = some (some (.d e))) (hw : whole e (-1000000) 1000000 = false) (hk : okP d = true) (hv : Vis scope "odd") (hv2 : Vis scope "number") (hg : scope.names.lookup ("power" : Str) = some gI) : EOc (DL.cL (cW m a ns) scope 5) Γ M (.Call (.Name "power" p1) [.Name "odd" p2, .Name "number" p4] [] p3) (.exc CN M.length) (M ++ [.xd [("value", .d e)]]) := by
  obtain ⟨s', r1, dt', r2⟩ := hO.dn
  exact er_call [4] F.po (ea_cons (ex_var 8 rfl h8 hv) (ea_cons (ex_var 9 rfl h9 hv2) ea_nil)) (Rpower.no2 (M := [.lst (sN one)]) dt' ⟨sN_lo 0 one, trivial⟩ hk hw) (proj_1x hL (sN_lo 0 one) (.cons r1 (.cons (.d _) .nil)) (.d _)) rfl (Nat.le_of_ble_eq_true rfl) hg
theorem po1 (h5 : Γ[5]? = some (some (.q true (dN one)))) (h1 : okP (tN one) = true) (h9 : Γ[9]? = some (some (.d e))) (hw : whole e (-1000000) 1000000 = false) (hv : Vis scope "one") (hv2 : Vis scope "number") (hg : scope.names.lookup ("power" : Str) = some gI) : EOc (DL.cL (cW m a ns) scope 5) Γ M (.Call (.Name "power" p1) [.Name "one" p2, .Name "number" p4] [] p3) (.exc CN M.length) (M ++ [.xd [("value", .d e)]]) :=
  er_call [4] F.po (ea_cons (ex_var 5 rfl h5 hv) (ea_cons (ex_var 9 rfl h9 hv2) ea_nil)) (Rpower.no2 (M := [.lst (sN one)]) (.q (dN one)) ⟨sN_lo 0 one, trivial⟩ h1 hw) (proj_1x hL (sN_lo 0 one) (.cons (.q _ _) (.cons (.d _) .nil)) (.d _)) rfl (Nat.le_of_ble_eq_true rfl) hg
theorem th1_ok {q : List Nat} (h5 : Γ[5]? = some (some (.q true (dN one)))) (h1 : okP (tN one) = true) (hd : d = tN q) (hk : okPn one.length d = true) (hv : Vis scope "odd") (hv2 : Vis scope "one") (hg : scope.names.lookup ("then" : Str) = some gI) : EOc (DL.cL (cW m a ns) scope 5) Γ M (.Call (.Name "then" p1) [.Name "one" p2, .Name "odd" p4] [] p3) (.val (.q true (dN (thenL one q)))) M := by
  subst hd
  obtain ⟨s', r1, dt', r2⟩ := hO.dn
  exact ex_callX [4] F.th (ea_cons (ex_var 5 rfl h5 hv2) (ea_cons (ex_var 8 rfl h8 hv) ea_nil)) (Rthen.ok (M := [.lst (sN one)]) true (.q (dN one)) dt' ⟨sN_lo 0 one, trivial⟩ h1 hk) (proj_1s hL (sN_lo 0 one) (.cons (.q _ _) (.cons r1 .nil)) trivial) rfl (Nat.le_of_ble_eq_true rfl) hg
theorem th1_no (h5 : Γ[5]? = some (some (.q true (dN one)))) (h1 : okP (tN one) = true) (hk : okPn one.length d = false) (hv : Vis scope "odd") (hv2 : Vis scope "one") (hg : scope.names.lookup ("then" : Str) = some gI) : EOc (DL.cL (cW m a ns) scope 5) Γ M (.Call (.Name "then" p1) [.Name "one" p2, .Name "odd" p4] [] p3) (.exc CP M.length) (M ++ [.xd [("value", s)]]) := by
  obtain ⟨s', r1, dt', r2⟩ := hO.dn
  exact er_call [4] F.th (ea_cons (ex_var 5 rfl h5 hv2) (ea_cons (ex_var 8 rfl h8 hv) ea_nil)) (Rthen.no2 (M := [.lst (sN one)]) (.q (dN one)) dt' ⟨sN_lo 0 one, trivial⟩ h1 (by rw [show (PyData.tuple (dN one)) = tN one from rfl, lenD_tN]; exact hk)) (proj_1x hL (sN_lo 0 one) (.cons (.q _ _) (.cons r1 .nil)) (r2 _)) rfl (Nat.le_of_ble_eq_true rfl) hg
/-- _law_is_perm(odd) -/
theorem li_odd {c : Cs} (hc : FnD c.ms 1 "_law_is_perm" ["thing"] Rl_is_perm) (hN : c.N[8]? = some ("odd" : Str)) (hv : Vis c.sc "odd") (hj : 1 ≤ c.k) (hg : c.sc.names.lookup ("_law_is_perm" : Str) = some gI) : EX c Γ M (.Call (.Name "_law_is_perm" p1) [.Name "odd" p2] [] p3) (.d (.bool (okP d))) M := by
  obtain ⟨s', r1, dt', r2⟩ := hO.dn
  exact ex_call [4] hc (ea_cons (ex_var 8 hN h8 hv) ea_nil) ⟨s', d, 1100, rfl, dt', hO.sm.mono (by decide) (Nat.le_refl _), ⟨sN_lo 0 one, trivial⟩, rfl, rfl⟩ (proj_1s hL (sN_lo 0 one) (.cons r1 .nil) trivial) rfl hj hg
end
end K

namespace K
open PySem PySem.Spec PyProof.Rows L2 DL DX PL LamX
theorem loMs_of {n : Nat} : ∀ {M : Sto}, (∀ m ∈ M, loM n m) → loMs n M
  | [], _ => trivial
  | m :: M, h => ⟨h m List.mem_cons_self, loMs_of fun x hx => h x (List.mem_cons_of_mem _ hx)⟩
theorem loMs_set {n k : Nat} {M : Sto} {m : MO} (h : loMs n M) (hm : loM n m) : loMs n (M.set k m) := loMs_of fun x hx => by
  rcases List.mem_or_eq_of_mem_set hx with z | z
  · exact h.at x z
  · rw [z]
    exact hm
abbrev fars : List PyData := [.int 0, .int 25, .int (-1), .bool true, .none, .str "3"]
theorem fars_ok : ∀ i, i < 6 → ∃ d, fars[i]? = some d ∧ whole d 1 24 = false ∧ Sm d 3 1100 := by
  intro i hi
  match i, hi with
  | 0, _ => exact ⟨_, rfl, by simp [whole], (Sm.int (by decide)).mono (by decide) (by decide)⟩
  | 1, _ => exact ⟨_, rfl, by simp [whole], (Sm.int (by decide)).mono (by decide) (by decide)⟩
  | 2, _ => exact ⟨_, rfl, by simp [whole], (Sm.int (by decide)).mono (by decide) (by decide)⟩
  | 3, _ => exact ⟨_, rfl, rfl, (Sm.bool true).mono (by decide) (by decide)⟩
  | 4, _ => exact ⟨_, rfl, rfl, Sm.none.mono (by decide) (by decide)⟩
  | 5, _ => exact ⟨_, rfl, rfl, (Sm.str (w := 1) (by decide +kernel) (by decide +kernel)).mono (by decide) (by decide)⟩
  | n + 6, h => exact absurd h (Nat.not_lt.mpr (Nat.le_add_left 6 n))
theorem sm_tag {x : Str} {d : PyData} (hx : Sm (.str x) 0 10) (h : Sm d 3 1100) : Sm (.tuple [.str x, d]) 4 1200 :=
  ((SmL.cons (hx.mono (by decide : 0 ≤ 3) (Nat.le_refl _)) (SmL.cons h (SmL.nil.mono (Nat.zero_le 3) (Nat.le_refl 0)))).tuple).mono (by decide) (by decide)
theorem sm_perm : Sm (.str "perm") 0 10 := Sm.str (by decide +kernel) (by decide +kernel)
theorem sm_number : Sm (.str "number") 0 10 := Sm.str (by decide +kernel) (by decide +kernel)
section
variable {m : Ms} {CP CN CH : Addr} {a : Addr} {ns : List Int} {A0 A1 A2 L : MO} {N : Nd} {Γ : Gm}
/-- repr of the same data on both sides -/
theorem et_repr {c : Cs} {M M1 M2 : Sto} {e1 e2 : Expr} {s1 s2 : S} {d : PyData} {p1 p2 pos p3 p4 : Pos} {w : Nat} (Z : Std c.mg) (h1 : EX c Γ M e1 s1 M1) (h2 : EX c Γ M1 e2 s2 M2) (g1 : Dg M1 s1 d) (g2 : Dg M2 s2 d) (hq : isSeqD d = true) (hs : Sm d 60 w) (hw : w ≤ 1048576)
    (hg : c.sc.names.lookup ("repr" : Str) = some gI := by rfl) (o1 : One e1 := by intro _; rfl) (o2 : One e2 := by intro _; rfl) : ET c Γ M (.Compare (.Call (.Name "repr" p1) [e1] [] p2) [.NotEq] [.Call (.Name "repr" p3) [e2] [] pos] p4) false M2 :=
  et_to (et_cmp (ex_repr Z h1 g1 hq hs.sw hs.noDict hs.dep (hs.fits (by decide) hw) hg o1) (ex_repr Z h2 g2 hq hs.sw hs.noDict hs.dep (hs.fits (by decide) hw) hg o2) os_neStr (by with_unfolding_all rfl)) (by simp) rfl
theorem id_no {M : Sto} {f : PyData} {scope : Scope} {p1 p2 p3 : Pos} (F : FA m CP CN CH) (hw : whole f 1 24 = false) (h17 : Γ[17]? = some (some (.d f))) (hv : Vis scope "far") (hg : scope.names.lookup ("identity" : Str) = some gI) : EOc (DL.cL (cW m a ns) scope 5) Γ M (.Call (.Name "identity" p1) [.Name "far" p2] [] p3) (.exc CN M.length) (M ++ [.xd [("value", .d f)]]) :=
  er_call [] F.id (ea_cons (ex_var 17 rfl h17 hv) ea_nil) (Rid.no hw) (proj_0x (s := .d f) ⟨trivial, trivial⟩ trivial) rfl (Nat.le_of_ble_eq_true rfl) hg
theorem p_far (F : FA m CP CN CH) {st : St3} {T : Sto} (h3 : Γ[3]? = some (some (.p 3))) (hl : Γ.length = 18) (lo : loMs ([A0, A1, A2, stM st, L] ++ T).length ([A0, A1, A2, stM st, L] ++ T)) (t0 : 0 ≤ st.t) (t1 : st.t ≤ 1000000)
    (hN : ∀ f st', N.nx (Γ.set 17 (some (.d f))) ([A0, A1, A2, stM st', L] ++ T ++ [.lst (fars.map S.d)])) : BX (cW m a ns) Γ ([A0, A1, A2, stM st, L] ++ T) (turnB.drop 18) N := by
  obtain ⟨hj, hje⟩ := dgN_lt (st := st) (b := 6) (by decide)
  obtain ⟨f, hf, hw, hsm⟩ := fars_ok _ hj
  have h17 : (Γ.set 17 (some (.d f)))[17]? = some (some (.d f)) := List.getElem?_set_self (by omega)
  have hgl : ([A0, A1, A2, stM st, L] ++ T ++ [MO.lst (fars.map S.d)]).set 3 (stM (nx st 6)) = [A0, A1, A2, stM (nx st 6), L] ++ T ++ [.lst (fars.map S.d)] := rfl
  have hlen : ([A0, A1, A2, stM (nx st 6), L] ++ T).length = ([A0, A1, A2, stM st, L] ++ T).length := by simp
  refine bx_cons (sx_set 17 (r := .d f) (M1 := [A0, A1, A2, stM (nx st 6), L] ++ T ++ [.lst (fars.map S.d)]) (ex_ixL (k := ([A0, A1, A2, stM st, L] ++ T).length) (i := ((dgN st 6 : Nat) : Int)) (m := .lst (fars.map S.d)) (M1 := [A0, A1, A2, stM st, L] ++ T ++ [.lst (fars.map S.d)]) (ex_to (ex_list (ea_cons ex_int (ea_cons ex_int (ea_cons (ex_neg ex_int) (ea_cons ex_bool (ea_cons ex_none (ea_cons ex_str ea_nil)))))) (Nat.le_of_ble_eq_true rfl)) rfl rfl) (ex_to (ex_digit (k := 3) (st := st) (b := 6) F.dg (ex_var 3 rfl h3) ex_int rfl (by decide) (by decide) t0 (by omega)) (by rw [show dg st 6 = (dgN st 6 : Int) from hje]) hgl) (by rw [← hlen, List.getElem?_append_right (Nat.le_refl _), Nat.sub_self]; rfl) rfl (DL.atI_nat (by rw [List.getElem?_map, hf]; rfl))) ?_)
  have lo' : loMs ([A0, A1, A2, stM (nx st 6), L] ++ T ++ [MO.lst (fars.map S.d)]).length ([A0, A1, A2, stM (nx st 6), L] ++ T ++ [.lst (fars.map S.d)]) := by
    rw [List.length_append]
    refine loMs_app (loMs_mono (Nat.le_add_right _ _) ?_) ⟨loL_data _ _, trivial⟩
    have := loMs_set (k := 3) lo (loM_mono (Nat.zero_le _) (stM_lo (nx st 6)))
    rw [hlen]
    exact this
  refine bx_one (sx_if (q := false) (M1 := [A0, A1, A2, stM (nx st 6), L] ++ T ++ [.lst (fars.map S.d)]) (et_repr (d := .tuple [.str "number", f]) (w := 1200) F.Z (tl0 F (by kernel_rfl) (id_no F hw h17 (Or.inr (Or.inr rfl)) rfl) (told_N (v := .d f) F.Z F.B F.H lo' trivial)) (ex_tup (ea_cons ex_str (ea_cons (ex_var 17 rfl h17) ea_nil)) (Nat.le_of_ble_eq_true rfl)) (dg_mk (.d f)) (dg_mk (.d f)) rfl ((sm_tag sm_number hsm).mono (by decide) (Nat.le_refl _)) (by decide)) (fun q => by cases q) (fun _ => bx_nil (hN f _)))
end
end K

namespace K
open PySem PySem.Spec PyProof.Rows L2 DL DX PL LamX
theorem odd_lo {p : List Nat} {s : S} {d : PyData} (h : Odd 4 p s d) {n : Nat} (hn : 5 ≤ n) : loS n s := by
  rcases h.ks with rfl | ⟨x, rfl | ⟨ds, rfl⟩⟩
  · exact hn
  · trivial
  · trivial
abbrev pS (s : S) : S := mkT [.d (.str "perm"), s]
abbrev qS (e : PyData) : S := .d (.tuple [.str "number", e])
theorem pS_lo {p : List Nat} {s : S} {d : PyData} (h : Odd 4 p s d) {n : Nat} (hn : 5 ≤ n) : loS n (pS s) := mkT_lo (odd_lo h hn)
section
variable {m : Ms} {CP CN CH : Addr} {a : Addr} {ns : List Int} {A0 A1 A2 : MO} {N : Nd}
theorem lo6 (hA : loMs 0 [A0, A1, A2]) (st : St3) (one : List Nat) (n : Nat) : loM n A0 ∧ loM n A1 ∧ loM n A2 ∧ loM n (stM st) ∧ loM n (.lst (sN one)) ∧ loM n (.lst (nums.map S.d)) :=
  ⟨loM_mono (Nat.zero_le _) hA.1, loM_mono (Nat.zero_le _) hA.2.1, loM_mono (Nat.zero_le _) hA.2.2.1, loM_mono (Nat.zero_le _) (stM_lo st), sN_lo _ _, loL_data _ _⟩
theorem loMs_cat {n : Nat} (hA : loMs 0 [A0, A1, A2]) (st : St3) (one : List Nat) {T : Sto} (h : loMs n T) : loMs n (m6 A0 A1 A2 st one ++ T) := by
  obtain ⟨h0, h1, h2, h3, h4, h5⟩ := lo6 hA st one n
  exact ⟨h0, h1, h2, h3, h4, h5, h⟩
theorem p_B (F : FA m CP CN CH) (hA : loMs 0 [A0, A1, A2]) {k cell : Int} {n : Nat} {one other : List Nat} {st : St3} {z : Option S} {s : S} {d e : PyData} (h1 : IsP one) (l1 : one.length ≤ 12) (hO : Odd 4 one s d) (hk : okP d = false) (hw : whole e (-1000000) 1000000 = false) (hsm : Sm e 3 1100) (t0 : 0 ≤ st.t) (t1 : st.t ≤ 1000000)
    (hN : ∀ g1 g2 g3 g4 g5 g6 g7 g8 g9 g10 g11 g12 g13 g14 g15 g16 g17 T, N.nx [some (.v (.ref a)), g1, g2, g3, g4, g5, g6, g7, g8, g9, g10, g11, g12, g13, g14, g15, g16, g17] ([A0, A1, A2] ++ T)) :
    BX (cW m a ns) (g18 a k cell n one other z (some s) (some (.d e)) none none none none none none none none) (m6 A0 A1 A2 st one) (turnB.drop 7) N := by
  have ok1 := okP_of h1 (by omega)
  have hP : ∀ {n : Nat}, 5 ≤ n → loS n (pS s) := fun h => pS_lo hO h
  have hPn : okPn one.length d = false := by simp [okPn, hk]
  have hdt : ∀ {M : Sto}, M[4]? = some (.lst (sN one)) → Dg M (pS s) (.tuple [.str "perm", d]) := fun h => dg_mk (hO.dt _ h)
  have is0 : ∀ {Γ M p1 p2 p3}, loMs M.length M → M[4]? = some (.lst (sN one)) → Γ[8]? = some (some s) → EX (cW m a ns) Γ M (.Call (.Name "_law_is_perm" p1) [.Name "odd" p2] [] p3) (.d (.bool false)) M := fun {Γ M p1 p2 p3} lo hL h8 => by
    have := li_odd (p1 := p1) (p2 := p2) (p3 := p3) (c := cW m a ns) F lo hL hO h8 F.li rfl (Or.inr (Or.inl rfl)) (Nat.le_of_ble_eq_true rfl) rfl
    rwa [hk] at this
  have L6 : loMs (m6 A0 A1 A2 st one).length (m6 A0 A1 A2 st one) := loMs_cat (T := []) hA st one trivial
  -- due
  refine bx_cons (sx_set 10 (r := pS s) (M1 := m6 A0 A1 A2 st one) (ex_if (q := false) (M1 := m6 A0 A1 A2 st one) (et_val (is0 L6 rfl rfl)) (fun q => by cases q) (fun _ => ex_tup (ea_cons ex_str (ea_cons (ex_var 8) ea_nil)) (Nat.le_of_ble_eq_true rfl))) ?_)
  refine bx_cons (sx_if (q := false) (M1 := m6 A0 A1 A2 st one) (et_repr (d := .tuple [.str "perm", d]) (w := 1200) F.Z (tl0 F (by kernel_rfl) (np_no F L6 rfl hO rfl hk (Or.inr (Or.inr rfl)) rfl) (told_P (v := s) F.Z F.B F.H L6 (odd_lo hO (Nat.le_of_ble_eq_true rfl)))) (ex_var 10) (hdt rfl) (hdt rfl) rfl ((sm_tag sm_perm hO.sm).mono (by decide) (Nat.le_refl _)) (by decide)) (fun q => by cases q) (fun _ => bx_nil ?_))
  -- told
  refine bx_cons (sx_set 11 (r := .p 6) (M1 := m6 A0 A1 A2 st one ++ [.lst [pS s, pS s]]) (ex_list (M1 := m6 A0 A1 A2 st one) (ea_cons (tl0 F (by kernel_rfl) (th0_no F L6 rfl hO rfl hk (Or.inr (Or.inr rfl)) rfl) (told_P (v := s) F.Z F.B F.H L6 (odd_lo hO (Nat.le_of_ble_eq_true rfl)))) (ea_cons (tl1 F (by kernel_rfl) (ba_no F L6 rfl hO rfl hk (Or.inr (Or.inr rfl)) rfl) (told_P (v := s) F.Z F.B F.H L6 (odd_lo hO (Nat.le_of_ble_eq_true rfl)))) ea_nil)) (Nat.le_of_ble_eq_true rfl)) ?_)
  have L7 : loMs (m6 A0 A1 A2 st one ++ [MO.lst [pS s, pS s]]).length (m6 A0 A1 A2 st one ++ [MO.lst [pS s, pS s]]) := loMs_cat hA st one ⟨⟨hP (Nat.le_of_ble_eq_true rfl), hP (Nat.le_of_ble_eq_true rfl), trivial⟩, trivial⟩
  refine bx_cons (sx_set 11 (r := .p 8) (M1 := m6 A0 A1 A2 st one ++ [.lst [pS s, pS s], .lst [pS s, qS e], .lst [pS s, pS s, pS s, qS e]]) (ex_to (ex_bin (M1 := m6 A0 A1 A2 st one ++ [.lst [pS s, pS s]]) (M2 := m6 A0 A1 A2 st one ++ [.lst [pS s, pS s], .lst [pS s, qS e]]) (ex_var 11) (ex_list (M1 := m6 A0 A1 A2 st one ++ [.lst [pS s, pS s]]) (ea_cons (tl0 F (by kernel_rfl) (po_no F L7 rfl hO rfl rfl hk (Or.inr (Or.inr rfl)) (Or.inr (Or.inr rfl)) rfl) (told_P (v := s) F.Z F.B F.H L7 (odd_lo hO (Nat.le_of_ble_eq_true rfl)))) (ea_cons (tl1 F (by kernel_rfl) (po1 F L7 rfl hO rfl rfl ok1 rfl hw (Or.inr (Or.inr rfl)) (Or.inr (Or.inr rfl)) rfl) (told_N (v := .d e) F.Z F.B F.H L7 trivial)) ea_nil)) (Nat.le_of_ble_eq_true rfl)) (os_cat (k := 6) (j := 7) (xs := [pS s, pS s]) (ys := [pS s, qS e]) rfl rfl (Nat.le_of_ble_eq_true rfl))) rfl rfl) ?_)
  have L9 : loMs (m6 A0 A1 A2 st one ++ [MO.lst [pS s, pS s], MO.lst [pS s, qS e], MO.lst [pS s, pS s, pS s, qS e]]).length (m6 A0 A1 A2 st one ++ [MO.lst [pS s, pS s], MO.lst [pS s, qS e], MO.lst [pS s, pS s, pS s, qS e]]) := loMs_cat hA st one ⟨⟨hP (Nat.le_of_ble_eq_true rfl), hP (Nat.le_of_ble_eq_true rfl), trivial⟩, ⟨hP (Nat.le_of_ble_eq_true rfl), trivial, trivial⟩, ⟨hP (Nat.le_of_ble_eq_true rfl), hP (Nat.le_of_ble_eq_true rfl), hP (Nat.le_of_ble_eq_true rfl), trivial, trivial⟩, trivial⟩
  refine bx_cons (sx_set 12 (r := .d (.bool false)) (M1 := m6 A0 A1 A2 st one ++ [.lst [pS s, pS s], .lst [pS s, qS e], .lst [pS s, pS s, pS s, qS e]]) (ex_to (ex_and (q1 := false) (q2 := false) (is0 L9 rfl rfl) (fun q => by cases q)) rfl rfl) ?_)
  refine bx_cons (sx_expr (M1 := m6 A0 A1 A2 st one ++ [.lst [pS s, pS s], .lst [pS s, qS e], .lst [pS s, pS s, pS s, qS e, pS s]]) (ex_append (k := 8) (xs := [pS s, pS s, pS s, qS e]) (ys := [pS s, pS s, pS s, qS e]) (s := pS s) (M1 := m6 A0 A1 A2 st one ++ [.lst [pS s, pS s], .lst [pS s, qS e], .lst [pS s, pS s, pS s, qS e]]) (M2 := m6 A0 A1 A2 st one ++ [.lst [pS s, pS s], .lst [pS s, qS e], .lst [pS s, pS s, pS s, qS e]]) (ex_var 11) (tl0 F (by kernel_rfl) (th1_no F L9 rfl hO rfl rfl ok1 hPn (Or.inr (Or.inr rfl)) (Or.inr (Or.inr rfl)) rfl) (told_P (v := s) F.Z F.B F.H L9 (odd_lo hO (Nat.le_of_ble_eq_true rfl)))) rfl rfl (Nat.le_of_ble_eq_true rfl)) ?_)
  have L9' : loMs (m6 A0 A1 A2 st one ++ [MO.lst [pS s, pS s], MO.lst [pS s, qS e], MO.lst [pS s, pS s, pS s, qS e, pS s]]).length (m6 A0 A1 A2 st one ++ [MO.lst [pS s, pS s], MO.lst [pS s, qS e], MO.lst [pS s, pS s, pS s, qS e, pS s]]) := loMs_cat hA st one ⟨⟨hP (Nat.le_of_ble_eq_true rfl), hP (Nat.le_of_ble_eq_true rfl), trivial⟩, ⟨hP (Nat.le_of_ble_eq_true rfl), trivial, trivial⟩, ⟨hP (Nat.le_of_ble_eq_true rfl), hP (Nat.le_of_ble_eq_true rfl), hP (Nat.le_of_ble_eq_true rfl), trivial, hP (Nat.le_of_ble_eq_true rfl), trivial⟩, trivial⟩
  refine bx_cons (sx_set 13 (r := pS s) (M1 := m6 A0 A1 A2 st one ++ [.lst [pS s, pS s], .lst [pS s, qS e], .lst [pS s, pS s, pS s, qS e, pS s]]) (ex_if (q := false) (et_val (is0 L9' rfl rfl)) (fun q => by cases q) (fun _ => ex_var 10)) ?_)
  refine bx_cons (sx_set 14 (r := pS s) (M1 := m6 A0 A1 A2 st one ++ [.lst [pS s, pS s], .lst [pS s, qS e], .lst [pS s, pS s, pS s, qS e, pS s]]) (ex_if (q := false) (et_val (is0 L9' rfl rfl)) (fun q => by cases q) (fun _ => ex_var 10)) ?_)
  refine bx_cons (sx_set 15 (r := pS s) (M1 := m6 A0 A1 A2 st one ++ [.lst [pS s, pS s], .lst [pS s, qS e], .lst [pS s, pS s, pS s, qS e, pS s]]) (ex_if (q := false) (et_val (is0 L9' rfl rfl)) (fun q => by cases q) (fun _ => ex_var 10)) ?_)
  refine bx_cons (sx_set 16 (r := pS s) (M1 := m6 A0 A1 A2 st one ++ [.lst [pS s, pS s], .lst [pS s, qS e], .lst [pS s, pS s, pS s, qS e, pS s]]) (ex_if (q := false) (et_val (ex_var 12)) (fun q => by cases q) (fun _ => ex_tup (ea_cons ex_str (ea_cons (ex_var 8) ea_nil)) (Nat.le_of_ble_eq_true rfl))) ?_)
  have hD : ∀ {M : Sto}, M[4]? = some (.lst (sN one)) → DgL M [pS s, pS s, pS s, qS e, pS s] [.tuple [.str "perm", d], .tuple [.str "perm", d], .tuple [.str "perm", d], .tuple [.str "number", e], .tuple [.str "perm", d]] := fun h => .cons (hdt h) (.cons (hdt h) (.cons (hdt h) (.cons (.d _) (.cons (hdt h) .nil))))
  have sP := (sm_tag sm_perm hO.sm)
  have sQ := (sm_tag sm_number hsm)
  have hS := ((SmL.cons sP (SmL.cons sP (SmL.cons sP (SmL.cons sQ (SmL.cons sP (SmL.nil.mono (Nat.zero_le 4) (Nat.le_refl 0))))))).list).mono (k' := 60) (w' := 10000) (by decide) (by decide)
  refine bx_cons (sx_if (q := false) (M1 := m6 A0 A1 A2 st one ++ [.lst [pS s, pS s], .lst [pS s, qS e], .lst [pS s, pS s, pS s, qS e, pS s], .lst [pS s, pS s, pS s, qS e, pS s]]) ?_ (fun q => by cases q) (fun _ => bx_nil ?_))
  · refine et_repr (d := .list [.tuple [.str "perm", d], .tuple [.str "perm", d], .tuple [.str "perm", d], .tuple [.str "number", e], .tuple [.str "perm", d]]) (w := 10000) (M1 := m6 A0 A1 A2 st one ++ [.lst [pS s, pS s], .lst [pS s, qS e], .lst [pS s, pS s, pS s, qS e, pS s]]) (s1 := .p 8) (s2 := .p 9) F.Z (ex_var 11) ?_ (Dg.l (k := 8) (m := .lst [pS s, pS s, pS s, qS e, pS s]) rfl rfl (hD rfl)) (Dg.l (k := 9) (m := .lst [pS s, pS s, pS s, qS e, pS s]) rfl rfl (hD rfl)) rfl hS (by decide)
    exact ex_to (ex_list (M1 := m6 A0 A1 A2 st one ++ [.lst [pS s, pS s], .lst [pS s, qS e], .lst [pS s, pS s, pS s, qS e, pS s]]) (ea_cons (ex_var 13) (ea_cons (ex_var 14) (ea_cons (ex_var 15) (ea_cons (ex_tup (ea_cons ex_str (ea_cons (ex_var 9) ea_nil)) (Nat.le_of_ble_eq_true rfl)) (ea_cons (ex_var 16) ea_nil))))) (Nat.le_of_ble_eq_true rfl)) rfl rfl
  have L10 : loMs (m6 A0 A1 A2 st one ++ [MO.lst [pS s, pS s], MO.lst [pS s, qS e], MO.lst [pS s, pS s, pS s, qS e, pS s], MO.lst [pS s, pS s, pS s, qS e, pS s]]).length (m6 A0 A1 A2 st one ++ [MO.lst [pS s, pS s], MO.lst [pS s, qS e], MO.lst [pS s, pS s, pS s, qS e, pS s], MO.lst [pS s, pS s, pS s, qS e, pS s]]) := loMs_cat hA st one ⟨⟨hP (Nat.le_of_ble_eq_true rfl), hP (Nat.le_of_ble_eq_true rfl), trivial⟩, ⟨hP (Nat.le_of_ble_eq_true rfl), trivial, trivial⟩, ⟨hP (Nat.le_of_ble_eq_true rfl), hP (Nat.le_of_ble_eq_true rfl), hP (Nat.le_of_ble_eq_true rfl), trivial, hP (Nat.le_of_ble_eq_true rfl), trivial⟩, ⟨hP (Nat.le_of_ble_eq_true rfl), hP (Nat.le_of_ble_eq_true rfl), hP (Nat.le_of_ble_eq_true rfl), trivial, hP (Nat.le_of_ble_eq_true rfl), trivial⟩, trivial⟩
  exact p_far F (st := st) (L := .lst (sN one)) (T := [.lst (nums.map S.d), .lst [pS s, pS s], .lst [pS s, qS e], .lst [pS s, pS s, pS s, qS e, pS s], .lst [pS s, pS s, pS s, qS e, pS s]]) rfl rfl L10 t0 t1 fun f st' => hN _ _ _ _ _ _ _ _ _ _ _ _ _ _ _ _ _ _
end
end K

namespace K
open PySem PySem.Spec PyProof.Rows L2 DL DX PL LamX
abbrev rS : S := .d (.tuple [.str "perm", .none])
abbrev nM : MO := .lst [.d .none]
abbrev qM (l : List Nat) : MO := .lst [.q true (dN l)]
section
variable {m : Ms} {CP CN CH : Addr} {a : Addr} {ns : List Int} {A0 A1 A2 : MO} {N : Nd}
abbrev m12 (A0 A1 A2 : MO) (st : St3) (one q : List Nat) (e : PyData) : Sto := m6 A0 A1 A2 st one ++ [nM, nM, qM (backL q), .lst [rS, .p 8], .lst [qS e, qS e], .lst [rS, .p 8, qS e, qS e]]
theorem odd_pl {one q : List Nat} {s : S} (hO : Odd 4 one s (tN q)) (hk : okP (tN q) = true) : s = .q true (dN q) := by
  obtain ⟨q', e1, e2⟩ := hO.pl hk
  cases tN_inj e2
  exact e1
theorem is1 {one q : List Nat} {Γ : Gm} {M : Sto} {p1 p2 p3 : Pos} (F : FA m CP CN CH) (hO : Odd 4 one (.q true (dN q)) (tN q)) (hk : okP (tN q) = true) (lo : loMs M.length M) (hL : M[4]? = some (.lst (sN one))) (h8 : Γ[8]? = some (some (.q true (dN q)))) :
    EX (cW m a ns) Γ M (.Call (.Name "_law_is_perm" p1) [.Name "odd" p2] [] p3) (.d (.bool true)) M := by
  have := li_odd (p1 := p1) (p2 := p2) (p3 := p3) (c := cW m a ns) F lo hL hO h8 F.li rfl (Or.inr (Or.inl rfl)) (Nat.le_of_ble_eq_true rfl) rfl
  rwa [hk] at this
theorem p_A0 (F : FA m CP CN CH) (hA : loMs 0 [A0, A1, A2]) {k cell : Int} {n : Nat} {one other q : List Nat} {st : St3} {z : Option S} {e : PyData} (h1 : IsP one) (l1 : one.length ≤ 12) (hO : Odd 4 one (.q true (dN q)) (tN q)) (hk : okP (tN q) = true) (hw : whole e (-1000000) 1000000 = false)
    (hN : BX (cW m a ns) (g18 a k cell n one other z (some (.q true (dN q))) (some (.d e)) (some (.p 6)) (some (.p 11)) (some (.d (.bool (decide ((q.length : Int) = n))))) none none none none none) (m12 A0 A1 A2 st one q e) (turnB.drop 12) N) :
    BX (cW m a ns) (g18 a k cell n one other z (some (.q true (dN q))) (some (.d e)) none none none none none none none none) (m6 A0 A1 A2 st one) (turnB.drop 7) N := by
  have ok1 := okP_of h1 (by omega)
  have L6 : loMs (m6 A0 A1 A2 st one).length (m6 A0 A1 A2 st one) := loMs_cat (T := []) hA st one trivial
  have L7 : loMs (m6 A0 A1 A2 st one ++ [nM]).length (m6 A0 A1 A2 st one ++ [nM]) := loMs_cat hA st one ⟨⟨trivial, trivial⟩, trivial⟩
  have L8 : loMs (m6 A0 A1 A2 st one ++ [nM, nM]).length (m6 A0 A1 A2 st one ++ [nM, nM]) := loMs_cat hA st one ⟨⟨trivial, trivial⟩, ⟨trivial, trivial⟩, trivial⟩
  have L10 : loMs (m6 A0 A1 A2 st one ++ [nM, nM, qM (backL q), MO.lst [rS, .p 8]]).length (m6 A0 A1 A2 st one ++ [nM, nM, qM (backL q), MO.lst [rS, .p 8]]) := loMs_cat hA st one ⟨⟨trivial, trivial⟩, ⟨trivial, trivial⟩, ⟨trivial, trivial⟩, ⟨trivial, Nat.le_of_ble_eq_true rfl, trivial⟩, trivial⟩
  have L12 : loMs (m12 A0 A1 A2 st one q e).length (m12 A0 A1 A2 st one q e) := loMs_cat hA st one ⟨⟨trivial, trivial⟩, ⟨trivial, trivial⟩, ⟨trivial, trivial⟩, ⟨trivial, Nat.le_of_ble_eq_true rfl, trivial⟩, ⟨trivial, trivial, trivial⟩, ⟨trivial, Nat.le_of_ble_eq_true rfl, trivial, trivial, trivial⟩, trivial⟩
  refine bx_cons (sx_set 10 (r := .p 6) (M1 := m6 A0 A1 A2 st one ++ [nM]) (ex_if (q := true) (M1 := m6 A0 A1 A2 st one) (et_val (is1 F hO hk L6 rfl rfl)) (fun _ => ex_list (ea_cons ex_none ea_nil) (Nat.le_of_ble_eq_true rfl)) (fun q => by cases q)) ?_)
  refine bx_cons (sx_if (q := false) (M1 := m6 A0 A1 A2 st one ++ [nM, nM]) (et_repr (d := .list [.none]) (w := 1) (M1 := m6 A0 A1 A2 st one ++ [nM, nM]) (s1 := .p 7) (s2 := .p 6) F.Z (ex_to (tl0 F (by kernel_rfl) (np_ok F L7 rfl hO rfl hk (Or.inr (Or.inr rfl)) rfl) (told_val (r0 := .d .none) F.H L7 trivial)) rfl rfl) (ex_var 10) (Dg.l (k := 7) (m := nM) rfl rfl (.cons (.d _) .nil)) (Dg.l (k := 6) (m := nM) rfl rfl (.cons (.d _) .nil)) rfl ((SmL.cons Sm.none SmL.nil).list.mono (by decide) (by decide)) (by decide)) (fun q => by cases q) (fun _ => bx_nil ?_))
  refine bx_cons (sx_set 11 (r := .p 9) (M1 := m6 A0 A1 A2 st one ++ [nM, nM, qM (backL q), .lst [rS, .p 8]]) ?_ ?_)
  · refine ex_to (ex_list (M1 := m6 A0 A1 A2 st one ++ [nM, nM, qM (backL q)]) (rs := [rS, .p 8]) (ea_cons (M1 := m6 A0 A1 A2 st one ++ [nM, nM]) ?_ (ea_cons (M1 := m6 A0 A1 A2 st one ++ [nM, nM, qM (backL q)]) ?_ ea_nil)) (Nat.le_of_ble_eq_true rfl)) rfl rfl
    · exact tl0 F (by kernel_rfl) (th0_ok F L8 rfl hO rfl hk (Or.inr (Or.inr rfl)) rfl) (told_P (v := .d .none) F.Z F.B F.H L8 trivial)
    · exact ex_to (tl1 F (by kernel_rfl) (ba_ok F L8 rfl hO rfl rfl hk (Or.inr (Or.inr rfl)) rfl) (told_val (r0 := .q true (dN (backL q))) F.H L8 trivial)) rfl rfl
  refine bx_cons (sx_set 11 (r := .p 11) (M1 := m12 A0 A1 A2 st one q e) ?_ ?_)
  · refine ex_to (ex_bin (M1 := m6 A0 A1 A2 st one ++ [nM, nM, qM (backL q), .lst [rS, .p 8]]) (M2 := m6 A0 A1 A2 st one ++ [nM, nM, qM (backL q), .lst [rS, .p 8], .lst [qS e, qS e]]) (x := .p 9) (y := .p 10) (ex_var 11) ?_ (os_cat (k := 9) (j := 10) (xs := [rS, .p 8]) (ys := [qS e, qS e]) rfl rfl (Nat.le_of_ble_eq_true rfl))) rfl rfl
    refine ex_to (ex_list (M1 := m6 A0 A1 A2 st one ++ [nM, nM, qM (backL q), .lst [rS, .p 8]]) (rs := [qS e, qS e]) (ea_cons (M1 := m6 A0 A1 A2 st one ++ [nM, nM, qM (backL q), .lst [rS, .p 8]]) ?_ (ea_cons (M1 := m6 A0 A1 A2 st one ++ [nM, nM, qM (backL q), .lst [rS, .p 8]]) ?_ ea_nil)) (Nat.le_of_ble_eq_true rfl)) rfl rfl
    · exact tl0 F (by kernel_rfl) (po_ok F L10 rfl hO rfl rfl hw hk (Or.inr (Or.inr rfl)) (Or.inr (Or.inr rfl)) rfl) (told_N (v := .d e) F.Z F.B F.H L10 trivial)
    · exact tl1 F (by kernel_rfl) (po1 F L10 rfl hO rfl rfl ok1 rfl hw (Or.inr (Or.inr rfl)) (Or.inr (Or.inr rfl)) rfl) (told_N (v := .d e) F.Z F.B F.H L10 trivial)
  refine bx_cons (sx_set 12 (r := .d (.bool (decide ((q.length : Int) = n)))) (M1 := m12 A0 A1 A2 st one q e) (ex_to (ex_and (q1 := true) (q2 := decide ((q.length : Int) = n)) (is1 F hO hk L12 rfl rfl) (fun _ => ex_one (ex_cmp (ex_len F.Z (ex_var 8) (n := q.length) ?_) (ex_var 4) os_eqI))) (by simp) rfl) hN)
  have := Ln.tup (M := m12 A0 A1 A2 st one q e) (s := .q true (dN q)) (ss := sN q) rfl
  rwa [sN_len] at this
theorem p_A (F : FA m CP CN CH) (hA : loMs 0 [A0, A1, A2]) {k cell : Int} {n : Nat} {one other : List Nat} {st : St3} {z : Option S} {s : S} {d e : PyData} (h1 : IsP one) (ln : one.length = n) (l1 : one.length ≤ 12) (hO : Odd 4 one s d) (hk : okP d = true) (hw : whole e (-1000000) 1000000 = false) (hsm : Sm e 3 1100) (t0 : 0 ≤ st.t) (t1 : st.t ≤ 1000000)
    (hN : ∀ g1 g2 g3 g4 g5 g6 g7 g8 g9 g10 g11 g12 g13 g14 g15 g16 g17 T, N.nx [some (.v (.ref a)), g1, g2, g3, g4, g5, g6, g7, g8, g9, g10, g11, g12, g13, g14, g15, g16, g17] ([A0, A1, A2] ++ T)) :
    BX (cW m a ns) (g18 a k cell n one other z (some s) (some (.d e)) none none none none none none none none) (m6 A0 A1 A2 st one) (turnB.drop 7) N := by
  obtain ⟨q, rfl, hq, hql⟩ := okP_iff.mp hk
  have ok1 := okP_of h1 (by omega)
  cases odd_pl hO hk
  have L12 : loMs (m12 A0 A1 A2 st one q e).length (m12 A0 A1 A2 st one q e) := loMs_cat hA st one ⟨⟨trivial, trivial⟩, ⟨trivial, trivial⟩, ⟨trivial, trivial⟩, ⟨trivial, Nat.le_of_ble_eq_true rfl, trivial⟩, ⟨trivial, trivial, trivial⟩, ⟨trivial, Nat.le_of_ble_eq_true rfl, trivial, trivial, trivial⟩, trivial⟩
  refine p_A0 F hA h1 l1 hO hk hw ?_
  have sQ : Sm (.tuple [.str "number", e]) 4 1200 := sm_tag sm_number hsm
  have sR : Sm (.tuple [.str "perm", .none]) 4 1200 := sm_tag sm_perm (Sm.none.mono (by decide) (by decide))
  have sT : ∀ {l : List Nat}, IsP l → l.length ≤ 24 → Sm (.list [tN l]) 4 1200 := fun {l} h hl => ((SmL.cons (sm_tN (lt12 h hl)) (SmL.nil.mono (Nat.zero_le 1) (Nat.le_refl 0))).list).mono (by decide) (by omega)
  have sB := sT hq.back (by rw [backL_len]; omega)
  by_cases hl : q.length = n
  · rw [decide_eq_true (show (q.length : Int) = n by omega)]
    have hPn : okPn one.length (tN q) = true := okPn_of hq hql (by omega)
    refine bx_cons (sx_expr (M1 := m6 A0 A1 A2 st one ++ [nM, nM, qM (backL q), .lst [rS, .p 8], .lst [qS e, qS e], .lst [rS, .p 8, qS e, qS e, .p 12], qM (thenL one q)]) (ex_append (k := 11) (xs := [rS, .p 8, qS e, qS e]) (ys := [rS, .p 8, qS e, qS e]) (s := .p 12) (M1 := m12 A0 A1 A2 st one q e) (M2 := m12 A0 A1 A2 st one q e ++ [qM (thenL one q)]) (ex_var 11) (ex_to (tl0 F (by kernel_rfl) (th1_ok F L12 rfl hO rfl rfl ok1 rfl hPn (Or.inr (Or.inr rfl)) (Or.inr (Or.inr rfl)) rfl) (told_val (r0 := .q true (dN (thenL one q))) F.H L12 trivial)) rfl rfl) rfl rfl (Nat.le_of_ble_eq_true rfl)) ?_)
    have L13 : loMs (m6 A0 A1 A2 st one ++ [nM, nM, qM (backL q), MO.lst [rS, .p 8], MO.lst [qS e, qS e], MO.lst [rS, .p 8, qS e, qS e, .p 12], qM (thenL one q)]).length (m6 A0 A1 A2 st one ++ [nM, nM, qM (backL q), MO.lst [rS, .p 8], MO.lst [qS e, qS e], MO.lst [rS, .p 8, qS e, qS e, .p 12], qM (thenL one q)]) := loMs_cat hA st one ⟨⟨trivial, trivial⟩, ⟨trivial, trivial⟩, ⟨trivial, trivial⟩, ⟨trivial, Nat.le_of_ble_eq_true rfl, trivial⟩, ⟨trivial, trivial, trivial⟩, ⟨trivial, Nat.le_of_ble_eq_true rfl, trivial, trivial, Nat.le_of_ble_eq_true rfl, trivial⟩, ⟨trivial, trivial⟩, trivial⟩
    refine bx_cons (sx_set 13 (r := rS) (M1 := m6 A0 A1 A2 st one ++ [nM, nM, qM (backL q), .lst [rS, .p 8], .lst [qS e, qS e], .lst [rS, .p 8, qS e, qS e, .p 12], qM (thenL one q)]) (ex_if (q := true) (et_val (is1 F hO hk L13 rfl rfl)) (fun _ => ex_to (ex_tup (ea_cons ex_str (ea_cons ex_none ea_nil)) (Nat.le_of_ble_eq_true rfl)) rfl rfl) (fun q => by cases q)) ?_)
    refine bx_cons (sx_set 14 (r := .p 13) (M1 := m6 A0 A1 A2 st one ++ [nM, nM, qM (backL q), .lst [rS, .p 8], .lst [qS e, qS e], .lst [rS, .p 8, qS e, qS e, .p 12], qM (thenL one q), qM (backL q)]) (ex_if (q := true) (et_val (is1 F hO hk L13 rfl rfl)) (fun _ => ex_to (ex_list (rs := [.q true (dN (backL q))]) (ea_cons (ex_call [] F.lb (ea_cons (ex_var 8) ea_nil) ⟨q, true, rfl, hq, by omega, rfl, rfl, rfl⟩ (proj_0 ⟨trivial, trivial⟩ trivial) rfl) ea_nil) (Nat.le_of_ble_eq_true rfl)) rfl rfl) (fun q => by cases q)) ?_)
    have L14 : loMs (m6 A0 A1 A2 st one ++ [nM, nM, qM (backL q), MO.lst [rS, .p 8], MO.lst [qS e, qS e], MO.lst [rS, .p 8, qS e, qS e, .p 12], qM (thenL one q), qM (backL q)]).length (m6 A0 A1 A2 st one ++ [nM, nM, qM (backL q), MO.lst [rS, .p 8], MO.lst [qS e, qS e], MO.lst [rS, .p 8, qS e, qS e, .p 12], qM (thenL one q), qM (backL q)]) := loMs_cat hA st one ⟨⟨trivial, trivial⟩, ⟨trivial, trivial⟩, ⟨trivial, trivial⟩, ⟨trivial, Nat.le_of_ble_eq_true rfl, trivial⟩, ⟨trivial, trivial, trivial⟩, ⟨trivial, Nat.le_of_ble_eq_true rfl, trivial, trivial, Nat.le_of_ble_eq_true rfl, trivial⟩, ⟨trivial, trivial⟩, ⟨trivial, trivial⟩, trivial⟩
    refine bx_cons (sx_set 15 (r := qS e) (M1 := m6 A0 A1 A2 st one ++ [nM, nM, qM (backL q), .lst [rS, .p 8], .lst [qS e, qS e], .lst [rS, .p 8, qS e, qS e, .p 12], qM (thenL one q), qM (backL q)]) (ex_if (q := true) (et_val (is1 F hO hk L14 rfl rfl)) (fun _ => ex_to (ex_tup (ea_cons ex_str (ea_cons (ex_var 9) ea_nil)) (Nat.le_of_ble_eq_true rfl)) rfl rfl) (fun q => by cases q)) ?_)
    refine bx_cons (sx_set 16 (r := .p 14) (M1 := m6 A0 A1 A2 st one ++ [nM, nM, qM (backL q), .lst [rS, .p 8], .lst [qS e, qS e], .lst [rS, .p 8, qS e, qS e, .p 12], qM (thenL one q), qM (backL q), qM (thenL one q)]) (ex_if (q := true) (et_val (ex_var 12)) (fun _ => ex_to (ex_list (rs := [.q true (dN (thenL one q))]) (ea_cons (ex_call [] F.lt (ea_cons (ex_q (ex_var 5)) (ea_cons (ex_q (ex_var 8)) ea_nil)) ⟨one, q, true, rfl, fun x hx => by rw [hl, ← ln]; exact h1.lt x hx, by omega, rfl, rfl, rfl⟩ (proj_0 ⟨trivial, trivial, trivial⟩ trivial) rfl) ea_nil) (Nat.le_of_ble_eq_true rfl)) rfl rfl) (fun q => by cases q)) ?_)
    have sL := sT (h1.then hq (by omega)) (by rw [thenL_len]; omega)
    have hS := ((SmL.cons sR (SmL.cons sB (SmL.cons sQ (SmL.cons sQ (SmL.cons sL (SmL.nil.mono (Nat.zero_le 4) (Nat.le_refl 0))))))).list).mono (k' := 60) (w' := 10000) (by decide) (by decide)
    refine bx_cons (sx_if (q := false) (M1 := m6 A0 A1 A2 st one ++ [nM, nM, qM (backL q), .lst [rS, .p 8], .lst [qS e, qS e], .lst [rS, .p 8, qS e, qS e, .p 12], qM (thenL one q), qM (backL q), qM (thenL one q), .lst [rS, .p 13, qS e, qS e, .p 14]]) ?_ (fun q => by cases q) (fun _ => bx_nil ?_))
    · refine et_repr (d := .list [.tuple [.str "perm", .none], .list [tN (backL q)], .tuple [.str "number", e], .tuple [.str "number", e], .list [tN (thenL one q)]]) (w := 10000) (M1 := m6 A0 A1 A2 st one ++ [nM, nM, qM (backL q), .lst [rS, .p 8], .lst [qS e, qS e], .lst [rS, .p 8, qS e, qS e, .p 12], qM (thenL one q), qM (backL q), qM (thenL one q)]) (s1 := .p 11) (s2 := .p 15) F.Z (ex_var 11) ?_ (Dg.l (k := 11) (m := .lst [rS, .p 8, qS e, qS e, .p 12]) rfl rfl (.cons (.d _) (.cons (Dg.l (k := 8) (m := qM (backL q)) rfl rfl (.cons (.q _) .nil)) (.cons (.d _) (.cons (.d _) (.cons (Dg.l (k := 12) (m := qM (thenL one q)) rfl rfl (.cons (.q _) .nil)) .nil)))))) (Dg.l (k := 15) (m := .lst [rS, .p 13, qS e, qS e, .p 14]) rfl rfl (.cons (.d _) (.cons (Dg.l (k := 13) (m := qM (backL q)) rfl rfl (.cons (.q _) .nil)) (.cons (.d _) (.cons (.d _) (.cons (Dg.l (k := 14) (m := qM (thenL one q)) rfl rfl (.cons (.q _) .nil)) .nil)))))) rfl hS (by decide)
      exact ex_to (ex_list (rs := [rS, .p 13, qS e, qS e, .p 14]) (ea_cons (ex_var 13) (ea_cons (ex_var 14) (ea_cons (ex_var 15) (ea_cons (ex_to (ex_tup (ea_cons ex_str (ea_cons (ex_var 9) ea_nil)) (Nat.le_of_ble_eq_true rfl)) rfl rfl) (ea_cons (ex_var 16) ea_nil))))) (Nat.le_of_ble_eq_true rfl)) rfl rfl
    refine p_far F (st := st) (L := .lst (sN one)) (T := [.lst (nums.map S.d), nM, nM, qM (backL q), .lst [rS, .p 8], .lst [qS e, qS e], .lst [rS, .p 8, qS e, qS e, .p 12], qM (thenL one q), qM (backL q), qM (thenL one q), .lst [rS, .p 13, qS e, qS e, .p 14]]) rfl rfl ?_ t0 t1 fun f st' => hN _ _ _ _ _ _ _ _ _ _ _ _ _ _ _ _ _ _
    exact loMs_cat (T := [nM, nM, qM (backL q), .lst [rS, .p 8], .lst [qS e, qS e], .lst [rS, .p 8, qS e, qS e, .p 12], qM (thenL one q), qM (backL q), qM (thenL one q), .lst [rS, .p 13, qS e, qS e, .p 14]]) hA st one ⟨⟨trivial, trivial⟩, ⟨trivial, trivial⟩, ⟨trivial, trivial⟩, ⟨trivial, Nat.le_of_ble_eq_true rfl, trivial⟩, ⟨trivial, trivial, trivial⟩, ⟨trivial, Nat.le_of_ble_eq_true rfl, trivial, trivial, Nat.le_of_ble_eq_true rfl, trivial⟩, ⟨trivial, trivial⟩, ⟨trivial, trivial⟩, ⟨trivial, trivial⟩, ⟨trivial, Nat.le_of_ble_eq_true rfl, trivial, trivial, Nat.le_of_ble_eq_true rfl, trivial⟩, trivial⟩
  · rw [decide_eq_false (show ¬ (q.length : Int) = n by omega)]
    have hPn : okPn one.length (tN q) = false := by
      simp only [okPn, hk, Bool.true_and, lenD_tN]
      exact decide_eq_false (by omega)
    have hpl : ∀ {n : Nat}, 5 ≤ n → loS n (pS (.q true (dN q))) := fun h => pS_lo hO h
    refine bx_cons (sx_expr (M1 := m6 A0 A1 A2 st one ++ [nM, nM, qM (backL q), .lst [rS, .p 8], .lst [qS e, qS e], .lst [rS, .p 8, qS e, qS e, pS (.q true (dN q))]]) (ex_append (k := 11) (xs := [rS, .p 8, qS e, qS e]) (ys := [rS, .p 8, qS e, qS e]) (s := pS (.q true (dN q))) (M1 := m12 A0 A1 A2 st one q e) (M2 := m12 A0 A1 A2 st one q e) (ex_var 11) (tl0 F (by kernel_rfl) (th1_no F L12 rfl hO rfl rfl ok1 hPn (Or.inr (Or.inr rfl)) (Or.inr (Or.inr rfl)) rfl) (told_P (v := .q true (dN q)) F.Z F.B F.H L12 trivial)) rfl rfl (Nat.le_of_ble_eq_true rfl)) ?_)
    have L13 : loMs (m6 A0 A1 A2 st one ++ [nM, nM, qM (backL q), MO.lst [rS, .p 8], MO.lst [qS e, qS e], MO.lst [rS, .p 8, qS e, qS e, pS (.q true (dN q))]]).length (m6 A0 A1 A2 st one ++ [nM, nM, qM (backL q), MO.lst [rS, .p 8], MO.lst [qS e, qS e], MO.lst [rS, .p 8, qS e, qS e, pS (.q true (dN q))]]) := loMs_cat hA st one ⟨⟨trivial, trivial⟩, ⟨trivial, trivial⟩, ⟨trivial, trivial⟩, ⟨trivial, Nat.le_of_ble_eq_true rfl, trivial⟩, ⟨trivial, trivial, trivial⟩, ⟨trivial, Nat.le_of_ble_eq_true rfl, trivial, trivial, hpl (Nat.le_of_ble_eq_true rfl), trivial⟩, trivial⟩
    refine bx_cons (sx_set 13 (r := rS) (M1 := m6 A0 A1 A2 st one ++ [nM, nM, qM (backL q), .lst [rS, .p 8], .lst [qS e, qS e], .lst [rS, .p 8, qS e, qS e, pS (.q true (dN q))]]) (ex_if (q := true) (et_val (is1 F hO hk L13 rfl rfl)) (fun _ => ex_to (ex_tup (ea_cons ex_str (ea_cons ex_none ea_nil)) (Nat.le_of_ble_eq_true rfl)) rfl rfl) (fun q => by cases q)) ?_)
    refine bx_cons (sx_set 14 (r := .p 12) (M1 := m6 A0 A1 A2 st one ++ [nM, nM, qM (backL q), .lst [rS, .p 8], .lst [qS e, qS e], .lst [rS, .p 8, qS e, qS e, pS (.q true (dN q))], qM (backL q)]) (ex_if (q := true) (et_val (is1 F hO hk L13 rfl rfl)) (fun _ => ex_to (ex_list (rs := [.q true (dN (backL q))]) (ea_cons (ex_call [] F.lb (ea_cons (ex_var 8) ea_nil) ⟨q, true, rfl, hq, by omega, rfl, rfl, rfl⟩ (proj_0 ⟨trivial, trivial⟩ trivial) rfl) ea_nil) (Nat.le_of_ble_eq_true rfl)) rfl rfl) (fun q => by cases q)) ?_)
    have L14 : loMs (m6 A0 A1 A2 st one ++ [nM, nM, qM (backL q), MO.lst [rS, .p 8], MO.lst [qS e, qS e], MO.lst [rS, .p 8, qS e, qS e, pS (.q true (dN q))], qM (backL q)]).length (m6 A0 A1 A2 st one ++ [nM, nM, qM (backL q), MO.lst [rS, .p 8], MO.lst [qS e, qS e], MO.lst [rS, .p 8, qS e, qS e, pS (.q true (dN q))], qM (backL q)]) := loMs_cat hA st one ⟨⟨trivial, trivial⟩, ⟨trivial, trivial⟩, ⟨trivial, trivial⟩, ⟨trivial, Nat.le_of_ble_eq_true rfl, trivial⟩, ⟨trivial, trivial, trivial⟩, ⟨trivial, Nat.le_of_ble_eq_true rfl, trivial, trivial, hpl (Nat.le_of_ble_eq_true rfl), trivial⟩, ⟨trivial, trivial⟩, trivial⟩
    refine bx_cons (sx_set 15 (r := qS e) (M1 := m6 A0 A1 A2 st one ++ [nM, nM, qM (backL q), .lst [rS, .p 8], .lst [qS e, qS e], .lst [rS, .p 8, qS e, qS e, pS (.q true (dN q))], qM (backL q)]) (ex_if (q := true) (et_val (is1 F hO hk L14 rfl rfl)) (fun _ => ex_to (ex_tup (ea_cons ex_str (ea_cons (ex_var 9) ea_nil)) (Nat.le_of_ble_eq_true rfl)) rfl rfl) (fun q => by cases q)) ?_)
    refine bx_cons (sx_set 16 (r := pS (.q true (dN q))) (M1 := m6 A0 A1 A2 st one ++ [nM, nM, qM (backL q), .lst [rS, .p 8], .lst [qS e, qS e], .lst [rS, .p 8, qS e, qS e, pS (.q true (dN q))], qM (backL q)]) (ex_if (q := false) (et_val (ex_var 12)) (fun q => by cases q) (fun _ => ex_tup (ea_cons ex_str (ea_cons (ex_var 8) ea_nil)) (Nat.le_of_ble_eq_true rfl))) ?_)
    have sP := sm_tag sm_perm hO.sm
    have hS := ((SmL.cons sR (SmL.cons sB (SmL.cons sQ (SmL.cons sQ (SmL.cons sP (SmL.nil.mono (Nat.zero_le 4) (Nat.le_refl 0))))))).list).mono (k' := 60) (w' := 10000) (by decide) (by decide)
    refine bx_cons (sx_if (q := false) (M1 := m6 A0 A1 A2 st one ++ [nM, nM, qM (backL q), .lst [rS, .p 8], .lst [qS e, qS e], .lst [rS, .p 8, qS e, qS e, pS (.q true (dN q))], qM (backL q), .lst [rS, .p 12, qS e, qS e, pS (.q true (dN q))]]) ?_ (fun q => by cases q) (fun _ => bx_nil ?_))
    · refine et_repr (d := .list [.tuple [.str "perm", .none], .list [tN (backL q)], .tuple [.str "number", e], .tuple [.str "number", e], .tuple [.str "perm", tN q]]) (w := 10000) (M1 := m6 A0 A1 A2 st one ++ [nM, nM, qM (backL q), .lst [rS, .p 8], .lst [qS e, qS e], .lst [rS, .p 8, qS e, qS e, pS (.q true (dN q))], qM (backL q)]) (s1 := .p 11) (s2 := .p 13) F.Z (ex_var 11) ?_ (Dg.l (k := 11) (m := .lst [rS, .p 8, qS e, qS e, pS (.q true (dN q))]) rfl rfl (.cons (.d _) (.cons (Dg.l (k := 8) (m := qM (backL q)) rfl rfl (.cons (.q _) .nil)) (.cons (.d _) (.cons (.d _) (.cons (dg_mk (.q (dN q))) .nil)))))) (Dg.l (k := 13) (m := .lst [rS, .p 12, qS e, qS e, pS (.q true (dN q))]) rfl rfl (.cons (.d _) (.cons (Dg.l (k := 12) (m := qM (backL q)) rfl rfl (.cons (.q _) .nil)) (.cons (.d _) (.cons (.d _) (.cons (dg_mk (.q (dN q))) .nil)))))) rfl hS (by decide)
      exact ex_to (ex_list (rs := [rS, .p 12, qS e, qS e, pS (.q true (dN q))]) (ea_cons (ex_var 13) (ea_cons (ex_var 14) (ea_cons (ex_var 15) (ea_cons (ex_to (ex_tup (ea_cons ex_str (ea_cons (ex_var 9) ea_nil)) (Nat.le_of_ble_eq_true rfl)) rfl rfl) (ea_cons (ex_var 16) ea_nil))))) (Nat.le_of_ble_eq_true rfl)) rfl rfl
    refine p_far F (st := st) (L := .lst (sN one)) (T := [.lst (nums.map S.d), nM, nM, qM (backL q), .lst [rS, .p 8], .lst [qS e, qS e], .lst [rS, .p 8, qS e, qS e, pS (.q true (dN q))], qM (backL q), .lst [rS, .p 12, qS e, qS e, pS (.q true (dN q))]]) rfl rfl ?_ t0 t1 fun f st' => hN _ _ _ _ _ _ _ _ _ _ _ _ _ _ _ _ _ _
    exact loMs_cat (T := [nM, nM, qM (backL q), .lst [rS, .p 8], .lst [qS e, qS e], .lst [rS, .p 8, qS e, qS e, pS (.q true (dN q))], qM (backL q), .lst [rS, .p 12, qS e, qS e, pS (.q true (dN q))]]) hA st one ⟨⟨trivial, trivial⟩, ⟨trivial, trivial⟩, ⟨trivial, trivial⟩, ⟨trivial, Nat.le_of_ble_eq_true rfl, trivial⟩, ⟨trivial, trivial, trivial⟩, ⟨trivial, Nat.le_of_ble_eq_true rfl, trivial, trivial, hpl (Nat.le_of_ble_eq_true rfl), trivial⟩, ⟨trivial, trivial⟩, ⟨trivial, Nat.le_of_ble_eq_true rfl, trivial, trivial, hpl (Nat.le_of_ble_eq_true rfl), trivial⟩, trivial⟩
end
end K

namespace K
open PySem PySem.Spec PyProof.Rows L2 DL DX PL LamX
abbrev gS (a : Addr) : Gm := [some (.v (.ref a)), none, none, none, none, none, none, none, none, none, none, none, none, none, none, none, none, none]
abbrev cells (ns : List Int) : List Int := ns.take 4 ++ [ns.sum]
abbrev m3 (ns : List Int) : Sto := [.lst (intsS (ns.take 4)), .lst (intsS [ns.sum]), .lst (intsS (cells ns))]
theorem ints_lo (n : Nat) (l : List Int) : loL n (intsS l) := by
  rw [← ints_s]
  exact loL_data n _
theorem lo3 (ns : List Int) (n : Nat) : loMs n (m3 ns) := ⟨ints_lo n _, ints_lo n _, ints_lo n _, trivial⟩
theorem ok_law {m : Ms} {f cc P : Addr} {fd : FuncData} {CP CN CH : Addr} (FL : Fun m.K "law" "law" s_law f fd) (hcd : fd.code = .ref cc) (hTb : LamX.TabB m.base m.mg cc P) (hT : m.T = [(P, ("law" : Str) ++ (".<locals>." : Str) ++ "<lambda>")]) (F : FA m CP CN CH) :
    FnG m.P m.w m.K m.mg m.base CX0 8 f fd ["script"] (spLaw m.K m.T) := by
  refine law_ofL FL sc_law (by decide) hcd hTb hT fun a ns h63 _ => ?_
  show BX (cW m a ns) (gS a) [] (defBody s_law) _
  have hcl : (cells ns).length ≤ 5 := by
    rw [List.length_append, List.length_take]
    simp
    omega
  have hil : (intsS (cells ns)).length = (cells ns).length := List.length_map ..
  refine bx_cons (sx_for (ix_enum (k := 2) (m := .lst (intsS (cells ns))) (M1 := m3 ns) ?_ rfl rfl F.Z.enum) (fun _ Γ M => Γ = gS a ∧ M = m3 ns) ⟨_, Fg.refl _, rfl, rfl⟩ ?_ ?_ ?_)
  · refine ex_to (ex_bin (ex_to (s := .p 0) (M2 := [.lst (intsS (ns.take 4))]) (ex_slV rfl (ex_var 0) eo_none (eo_some ex_int)) rfl ?_) (ex_to (s := .p 1) (M2 := [.lst (intsS (ns.take 4)), .lst (intsS [ns.sum])]) (ex_list (ea_cons (ex_callB (cs_sumV rfl) (ea_cons (ex_var 0) ea_nil) F.Z.sum boot_sum) ea_nil) (Nat.le_of_ble_eq_true rfl)) rfl rfl) (os_cat (xs := intsS (ns.take 4)) (ys := intsS [ns.sum]) rfl rfl ?_)) rfl ?_
    · show [] ++ [MO.lst (DL.cutS (intsS ns) none (some ((4 : Nat) : Int)))] = _
      rw [cutS_take]
      rfl
    · have := hil
      have e : (intsS (ns.take 4)).length = (ns.take 4).length := List.length_map ..
      rw [e, List.length_take]
      simp
      omega
    · show [MO.lst (intsS (ns.take 4)), .lst (intsS [ns.sum])] ++ [MO.lst (intsS (ns.take 4) ++ intsS [ns.sum])] = _
      rw [show intsS (ns.take 4) ++ intsS [ns.sum] = intsS (cells ns) from (List.map_append ..).symm]
      rfl
  · rintro k Γ M _ ⟨rfl, rfl⟩
    exact ⟨_, rfl, rfl⟩
  · rintro k Γ M hk ⟨rfl, rfl⟩
    rw [hil] at hk
    obtain ⟨cell, hc⟩ : ∃ cell, (cells ns)[k]? = some cell := ⟨_, List.getElem?_eq_getElem hk⟩
    have e : mkT [S.d (.int (k : Nat)), (intsS (cells ns)).getD k (.d .none)] = .d (.tuple [.int k, .int cell]) := by
      have : (intsS (cells ns)).getD k (.d .none) = .d (.int cell) := by
        rw [List.getD, List.getElem?_map, hc]
        rfl
      rw [this]
      rfl
    rw [e]
    refine ⟨_, _, gx_tup rfl (gxs_cons (gx_name 1) (gxs_cons (gx_name 2) gxs_nil)), ?_⟩
    show BX (cW m a ns) (g3 a k cell) (m3 ns) turnB _
    have hend : ∀ g1 g2 g3 g4 g5 g6 g7 g8 g9 g10 g11 g12 g13 g14 g15 g16 g17 T, Nxt (m3 ns).length (fun Γ M => Γ = gS a ∧ M = m3 ns) [some (.v (.ref a)), g1, g2, g3, g4, g5, g6, g7, g8, g9, g10, g11, g12, g13, g14, g15, g16, g17] (m3 ns ++ T) := fun _ _ _ _ _ _ _ _ _ _ _ _ _ _ _ _ _ T =>
      nxt_of (n := 3) (Γ' := gS a) (M' := m3 ns) (by simp) rfl (lo3 ns 3) ⟨rfl, trivial⟩ ⟨trivial, trivial⟩ ⟨rfl, rfl⟩
    refine p_front F (lo3 ns 0) (by omega) fun n one other st z h1 ln hn1 hn2 t0 t1 => ?_
    refine p_odd F h1 (by omega) t0 t1 fun st' s d e hO hw hsm t0' t1' => ?_
    cases hk : okP d with
    | true => exact p_A F (lo3 ns 0) h1 ln (by omega) hO hk hw hsm t0' (by omega) hend
    | false => exact p_B F (lo3 ns 0) h1 (by omega) hO hk hw hsm t0' (by omega) hend
  · rintro Γ M ⟨rfl, rfl⟩
    have r24 : IsP (List.range 24) := IsP.range (by decide)
    have r1 : IsP (List.range 1) := IsP.range (by decide)
    refine bx_one (sx_ret (r := .d (.bool true)) (M1 := m3 ns) (ex_to (ex_and (q1 := true) (q2 := true) (ex_to (ex_cmp (ex_callX [] F.id (ea_cons ex_int ea_nil) (Rid.ok (n := 24) true (by decide) (by decide)) (proj_0 ⟨trivial, trivial⟩ trivial) rfl) (ex_tupRg true (n := 24) F.Z ex_int) (os_eqT (p := List.range 24) (q := List.range 24) (.q _) (.q _) ?_ ?_)) (by simp) rfl) (fun _ => ex_one (ex_to (ex_cmp (ex_callX [] F.id (ea_cons ex_int ea_nil) (Rid.ok (n := 1) true (by decide) (by decide)) (proj_0 ⟨trivial, trivial⟩ trivial) rfl) (ex_tup (ea_cons ex_int ea_nil) (Nat.le_of_ble_eq_true rfl)) (os_eqT (p := List.range 1) (q := List.range 1) (.q _) (.d _) ?_ ?_)) (by simp) rfl))) rfl rfl) rfl)
    · exact lt12 r24 (by simp)
    · exact lt12 r24 (by simp)
    · exact lt12 r1 (by simp)
    · exact lt12 r1 (by simp)
end K

namespace K
open PySem PySem.Spec PyProof.Rows L2 DL DX
theorem hasD_mk {m : Ms} {h : Heap} (X : m.K.In h) (G : h.Ns mainGlobals m.mg) {x : Str} {st : Stmt} {ps : List Str} {f : Addr} {oc : Value} {od an : Option Addr} {osl : Array (Option Value)} {kV doc pm cdv ct : Value} (a : PySem.W.nsIn m.K mainGlobals x = some (some (.ref f)))
    (l : m.K.lookup f = some ⟨oc, od, .func (PySem.W.fnOf x x (defArgs st) (defBody st) (defScope st) .none kV doc pm an cdv ct), osl⟩) (c : PySem.W.codeIn m.K cdv x = true) (k : PySem.W.keepIn m.K (.ref f) = true)
    (hb : ∀ (kV doc pm : Value) (an : Option Addr) (cdv ct : Value) (us : List Value), us.length = ps.length → bindArgs (PySem.W.fnOf x x (defArgs st) (defBody st) (defScope st) .none kV doc pm an cdv ct) ⟨us, []⟩ = pure (ps.zip us)) : HasD m x st ps :=
  ⟨f, _, PySem.W.mg_of X G a, fun_mk l c k, (fun_mk l c k).binds hb⟩
section
variable {m : Ms} {h : Heap} {x f msg pn bn qual : Str} {C fI : Addr} {B nI iI : String} {bmB : List Value} {st : Stmt} {oc : Value} {od an : Option Addr} {osl : Array (Option Value)} {dV kV doc pm cdv ct : Value} {p1 p2 p3 p4 p5 p6 p7 p8 p9 p10 : Pos} {j : Nat}
theorem xm_mk (X : m.K.In h) (G : h.Ns mainGlobals m.mg) (dfl : Bool) (aC : PySem.W.nsIn m.K mainGlobals x = some (some (.ref C))) (kC : PySem.W.keepIn m.K (.ref C) = true) (iC : PySem.W.findIn m.K (.ref C) "__init__" = some (some (.ref fI))) (tI : PySem.W.typeIn m.K (.ref fI) = some (.type "function"))
    (lI : m.K.lookup fI = some ⟨oc, od, .func (PySem.W.fnOf "__init__" qual (defArgs st) (defBody st) (defScope st) dV kV doc pm an cdv ct), osl⟩) (cI : PySem.W.codeIn m.K cdv qual = true) (kI : PySem.W.keepIn m.K (.ref fI) = true) (dB : He.dflB m.K dV (if dfl = true then [.non] else []) = true)
    (eb : ExcBaseFacts B nI iI bmB) (sb : StoreFacts B bmB "object.__setattr__" "object") (ei : PySem.W.excInitIn m.K C bmB nI = true) (eo : PySem.W.excOver m.K C bmB = true) (sa : PySem.W.findIn m.K (.ref C) "__setattr__" = some (some (.builtin "object.__setattr__"))) (hd : PySem.W.hasDictIn m.K C = true)
    (W : Bi m.K m.mg bn iI) (ht : PySem.W.takerIn m.K C f = some none) (S : FnScope ["self", pn] ["self", pn] (defScope st))
    (hB : defBody st = [.Expr (.Call (.Attribute (.Name bn p1) "__init__" p2) [.Name "self" p3, .Constant (.str msg) j p4] [] p5) p6, .Assign [.Attribute (.Name "self" p7) f p8] (.Name pn p9) p10])
    (hg : (defScope st).names.lookup bn = some .globalImplicit) (h1 : (defScope st).names.lookup ("self" : Str) = some .local) (h2 : (defScope st).names.lookup pn = some .local) (hh : PySem.W.handedIn (.builtin iI) = true) (hdb : (bn == ("__debug__" : Str)) = false)
    (hp1 : (pn == ("__debug__" : Str)) = false) (hp2 : (pn == ("__classdict__" : Str)) = false) (pl : Env → Sem Bool)
    (hc : ∀ env, eval (.Call (.Attribute (.Name bn p1) "__init__" p2) [.Name "self" p3, .Constant (.str msg) j p4] [] p5) env = (do
      let ov ← eval (.Name bn p1) env
      standAt p2.atName
      let (fn, first) ← holding [ov] (getMethod ov "__init__" (pl env))
      callWith p5 fn first (backTo p5 (starEach [.Name "self" p3, .Constant (.str msg) j p4] env)) (backToKw p5 (keywordEach [] env))))
    (bT : dfl = true → ∀ (T : Addr) (kV doc pm : Value) (an : Option Addr) (cdv ct e u d : Value),
      (∃ k, bindArgs (PySem.W.fnOf "__init__" qual (defArgs st) (defBody st) (defScope st) (.ref T) kV doc pm an cdv ct) ⟨[e, u], []⟩ = seqItems? (.ref T) >>= k ∧ k (some #[d]) = pure [(("self" : Str), e), (pn, u)]) ∧
      (∃ k, bindArgs (PySem.W.fnOf "__init__" qual (defArgs st) (defBody st) (defScope st) (.ref T) kV doc pm an cdv ct) ⟨[e], [(pn, u)]⟩ = seqItems? (.ref T) >>= k ∧ k (some #[d]) = pure [(("self" : Str), e), (pn, u)]) ∧
      (∃ k, bindArgs (PySem.W.fnOf "__init__" qual (defArgs st) (defBody st) (defScope st) (.ref T) kV doc pm an cdv ct) ⟨[e], []⟩ = seqItems? (.ref T) >>= k ∧ k (some #[d]) = pure [(("self" : Str), e), (pn, d)]))
    (bF : dfl = false → ∀ (kV doc pm : Value) (an : Option Addr) (cdv ct e u : Value), bindArgs (PySem.W.fnOf "__init__" qual (defArgs st) (defBody st) (defScope st) .none kV doc pm an cdv ct) ⟨[e, u], []⟩ = pure [(("self" : Str), e), (pn, u)] ∧ bindArgs (PySem.W.fnOf "__init__" qual (defArgs st) (defBody st) (defScope st) .none kV doc pm an cdv ct) ⟨[e], [(pn, u)]⟩ = pure [(("self" : Str), e), (pn, u)]) :
    XM m x C f msg pn dfl := by
  have F : FunD m.K "__init__" qual (defArgs st) (defBody st) (defScope st) (if dfl = true then [.non] else []) [] fI (PySem.W.fnOf "__init__" qual (defArgs st) (defBody st) (defScope st) dV kV doc pm an cdv ct) := ⟨⟨oc, od, dV, kV, doc, pm, an, cdv, ct, osl, rfl, lI, cI, He.dflB_ok dB, .inl rfl⟩, kI⟩
  have T : XcC m.K C B nI iI bmB := ⟨eb, sb, ei, eo, sa, hd, kC⟩
  have D := He.dflB_ok dB
  refine ⟨PySem.W.mg_of X G aC, kC, B, nI, iI, bmB, fI, _, T, iC, tI, ok_init F S hB T W ht hg h1 h2 hh hdb hp1 hp2 pl hc, ?_, ?_, ?_⟩
  all_goals cases dfl with
    | true =>
      rcases D with ⟨e, _⟩ | ⟨_, T0, o, its, n, rfl, lT, oT, rT⟩
      · cases e
      · cases rT with
        | cons r1 rn =>
          cases rn
          rename_i d
          obtain rfl : d = Value.none := r1
          first
            | (intro s e u XX
               obtain ⟨k, e1, e2⟩ := (bT rfl T0 kV doc pm an cdv ct (.ref e) u .none).1
               refine BindsTo.of_looks fun M => ?_
               rw [e1]
               exact looks_items XX lT oT (.of_pure e2))
            | (intro s e u XX
               obtain ⟨k, e1, e2⟩ := (bT rfl T0 kV doc pm an cdv ct (.ref e) u .none).2.1
               refine BindsTo.of_looks fun M => ?_
               rw [e1]
               exact looks_items XX lT oT (.of_pure e2))
            | (intro _ s e XX
               obtain ⟨k, e1, e2⟩ := (bT rfl T0 kV doc pm an cdv ct (.ref e) .none .none).2.2
               refine BindsTo.of_looks fun M => ?_
               rw [e1]
               exact looks_items XX lT oT (.of_pure e2))
    | false =>
      rcases D with ⟨_, rfl⟩ | ⟨e, _⟩
      · first
          | exact fun s e u XX => .of_eq (bF rfl kV doc pm an cdv ct (.ref e) u).1
          | exact fun s e u XX => .of_eq (bF rfl kV doc pm an cdv ct (.ref e) u).2
          | exact fun q => absurd q Bool.false_ne_true
      · exact absurd rfl e
end
end K

namespace K
open PySem PySem.Spec PyProof.Rows L2 DL DX
def inClass : Stmt → Nat → Stmt
  | .ClassDef (body := b) .., i => b.getD i (.Pass ⟨0, 0, 0, 0⟩)
  | s, _ => s
def xmB (K : PySem.W.Frag) (C fI : Addr) (dV : Value) (dfl : Bool) (nI : String) (bmB : List Value) (f : Str) : Bool :=
  PySem.W.keepIn K (.ref C) && (decide (PySem.W.typeIn K (.ref fI) = some (.type "function")) && (PySem.W.keepIn K (.ref fI) && (He.dflB K dV (if dfl = true then [.non] else []) && (PySem.W.excInitIn K C bmB nI && (PySem.W.excOver K C bmB && (decide (PySem.W.findIn K (.ref C) "__setattr__" = some (some (.builtin "object.__setattr__"))) && (PySem.W.hasDictIn K C && decide (PySem.W.takerIn K C f = some none))))))))
theorem band {a b : Bool} (h : (a && b) = true) : a = true ∧ b = true := Bool.and_eq_true_iff.mp h
theorem xmB_ok {K : PySem.W.Frag} {C fI : Addr} {dV : Value} {dfl : Bool} {nI : String} {bmB : List Value} {f : Str} (h : xmB K C fI dV dfl nI bmB f = true) : PySem.W.keepIn K (.ref C) = true ∧ PySem.W.typeIn K (.ref fI) = some (.type "function") ∧ PySem.W.keepIn K (.ref fI) = true ∧ He.dflB K dV (if dfl = true then [.non] else []) = true ∧ PySem.W.excInitIn K C bmB nI = true ∧ PySem.W.excOver K C bmB = true ∧
    PySem.W.findIn K (.ref C) "__setattr__" = some (some (.builtin "object.__setattr__")) ∧ PySem.W.hasDictIn K C = true ∧ PySem.W.takerIn K C f = some none := by
  obtain ⟨h1, h⟩ := band h
  obtain ⟨h2, h⟩ := band h
  obtain ⟨h3, h⟩ := band h
  obtain ⟨h4, h⟩ := band h
  obtain ⟨h5, h⟩ := band h
  obtain ⟨h6, h⟩ := band h
  obtain ⟨h7, h⟩ := band h
  obtain ⟨h8, h9⟩ := band h
  exact ⟨h1, of_decide_eq_true h2, h3, h4, h5, h6, of_decide_eq_true h7, h8, of_decide_eq_true h9⟩
def xqB (K : PySem.W.Frag) (D : Addr) (f : Str) : Bool :=
  decide (PySem.W.findIn K (.ref D) "__getattribute__" = some (some (.builtin "BaseException.__getattribute__"))) && (decide (PySem.W.findIn K (.ref D) "__getattr__" = some none) && (decide (PySem.W.subIn K (.ref D) (.type "BaseException") = some true) && (PySem.W.hasDictIn K D && (decide (PySem.W.findIn K (.ref D) "__class__" = some (some (.builtin "object.__class__"))) &&
    (decide (PySem.W.mroIn K D (.type "object") = some true) && (decide (PySem.W.findIn K (.ref D) "__str__" = some (some (.builtin "BaseException.__str__"))) && decide (PySem.W.findIn K (.ref D) f = some none)))))))
theorem xqB_ok {K : PySem.W.Frag} {D : Addr} {f : Str} (h : xqB K D f = true) : XqC K D ∧ PySem.W.findIn K (.ref D) f = some none := by
  obtain ⟨h1, h⟩ := band h
  obtain ⟨h2, h⟩ := band h
  obtain ⟨h3, h⟩ := band h
  obtain ⟨h4, h⟩ := band h
  obtain ⟨h5, h⟩ := band h
  obtain ⟨h6, h⟩ := band h
  obtain ⟨h7, h8⟩ := band h
  exact ⟨⟨of_decide_eq_true h1, of_decide_eq_true h2, of_decide_eq_true h3, h4, of_decide_eq_true h5, of_decide_eq_true h6, of_decide_eq_true h7⟩, of_decide_eq_true h8⟩
def xhB (K : PySem.W.Frag) (CP CN CH : Addr) : Bool :=
  decide (PySem.W.exmOne K (.ref CP) (.ref CH) = some true) && (decide (PySem.W.exmOne K (.ref CN) (.ref CH) = some true) && (decide (PySem.W.kitOne K (.ref CP) (.ref CP) = some true) && (decide (PySem.W.kitOne K (.ref CP) (.type "ValueError") = some true) &&
    (decide (PySem.W.kitOne K (.ref CN) (.ref CP) = some false) && (decide (PySem.W.kitOne K (.ref CN) (.ref CN) = some true) && (decide (PySem.W.typeIn K (.ref CP) = some (.type "type")) && decide (PySem.W.typeIn K (.ref CN) = some (.type "type"))))))))
theorem xhB_ok {K : PySem.W.Frag} {CP CN CH : Addr} (h : xhB K CP CN CH = true) : PySem.W.exmOne K (.ref CP) (.ref CH) = some true ∧ PySem.W.exmOne K (.ref CN) (.ref CH) = some true ∧ PySem.W.kitOne K (.ref CP) (.ref CP) = some true ∧ PySem.W.kitOne K (.ref CP) (.type "ValueError") = some true ∧
    PySem.W.kitOne K (.ref CN) (.ref CP) = some false ∧ PySem.W.kitOne K (.ref CN) (.ref CN) = some true ∧ PySem.W.typeIn K (.ref CP) = some (.type "type") ∧ PySem.W.typeIn K (.ref CN) = some (.type "type") := by
  obtain ⟨h1, h⟩ := band h
  obtain ⟨h2, h⟩ := band h
  obtain ⟨h3, h⟩ := band h
  obtain ⟨h4, h⟩ := band h
  obtain ⟨h5, h⟩ := band h
  obtain ⟨h6, h⟩ := band h
  obtain ⟨h7, h8⟩ := band h
  exact ⟨of_decide_eq_true h1, of_decide_eq_true h2, of_decide_eq_true h3, of_decide_eq_true h4, of_decide_eq_true h5, of_decide_eq_true h6, of_decide_eq_true h7, of_decide_eq_true h8⟩
theorem all_mk {l : PySem.W.OpenLaw} {w : World} {K : PySem.W.Frag} {h : Heap} {mg : Str → Option Value} {fa : Addr} (X : K.In h) (G : h.Ns mainGlobals mg) (hfa : mg "law" = some (.ref fa)) (ow : LamX.OwnTab K fa h)
    {f_is_whole : Addr} {od_is_whole an_is_whole : Option Addr} {sl_is_whole : Array (Option Value)} {oc_is_whole kV_is_whole dc_is_whole pm_is_whole cd_is_whole ct_is_whole : Value}
    {f_is_perm : Addr} {od_is_perm an_is_perm : Option Addr} {sl_is_perm : Array (Option Value)} {oc_is_perm kV_is_perm dc_is_perm pm_is_perm cd_is_perm ct_is_perm : Value}
    {f_is_perm_of : Addr} {od_is_perm_of an_is_perm_of : Option Addr} {sl_is_perm_of : Array (Option Value)} {oc_is_perm_of kV_is_perm_of dc_is_perm_of pm_is_perm_of cd_is_perm_of ct_is_perm_of : Value}
    {f_need_perm : Addr} {od_need_perm an_need_perm : Option Addr} {sl_need_perm : Array (Option Value)} {oc_need_perm kV_need_perm dc_need_perm pm_need_perm cd_need_perm ct_need_perm : Value}
    {f_need_same : Addr} {od_need_same an_need_same : Option Addr} {sl_need_same : Array (Option Value)} {oc_need_same kV_need_same dc_need_same pm_need_same cd_need_same ct_need_same : Value}
    {f_need_size : Addr} {od_need_size an_need_size : Option Addr} {sl_need_size : Array (Option Value)} {oc_need_size kV_need_size dc_need_size pm_need_size cd_need_size ct_need_size : Value}
    {f_own_then : Addr} {od_own_then an_own_then : Option Addr} {sl_own_then : Array (Option Value)} {oc_own_then kV_own_then dc_own_then pm_own_then cd_own_then ct_own_then : Value}
    {f_own_back : Addr} {od_own_back an_own_back : Option Addr} {sl_own_back : Array (Option Value)} {oc_own_back kV_own_back dc_own_back pm_own_back cd_own_back ct_own_back : Value}
    {f_own_identity : Addr} {od_own_identity an_own_identity : Option Addr} {sl_own_identity : Array (Option Value)} {oc_own_identity kV_own_identity dc_own_identity pm_own_identity cd_own_identity ct_own_identity : Value}
    {f_then : Addr} {od_then an_then : Option Addr} {sl_then : Array (Option Value)} {oc_then kV_then dc_then pm_then cd_then ct_then : Value}
    {f_back : Addr} {od_back an_back : Option Addr} {sl_back : Array (Option Value)} {oc_back kV_back dc_back pm_back cd_back ct_back : Value}
    {f_identity : Addr} {od_identity an_identity : Option Addr} {sl_identity : Array (Option Value)} {oc_identity kV_identity dc_identity pm_identity cd_identity ct_identity : Value}
    {f_power : Addr} {od_power an_power : Option Addr} {sl_power : Array (Option Value)} {oc_power kV_power dc_power pm_power cd_power ct_power : Value}
    {f_l_mixed : Addr} {od_l_mixed an_l_mixed : Option Addr} {sl_l_mixed : Array (Option Value)} {oc_l_mixed kV_l_mixed dc_l_mixed pm_l_mixed cd_l_mixed ct_l_mixed : Value}
    {f_l_draw : Addr} {od_l_draw an_l_draw : Option Addr} {sl_l_draw : Array (Option Value)} {oc_l_draw kV_l_draw dc_l_draw pm_l_draw cd_l_draw ct_l_draw : Value}
    {f_l_digit : Addr} {od_l_digit an_l_digit : Option Addr} {sl_l_digit : Array (Option Value)} {oc_l_digit kV_l_digit dc_l_digit pm_l_digit cd_l_digit ct_l_digit : Value}
    {f_l_then : Addr} {od_l_then an_l_then : Option Addr} {sl_l_then : Array (Option Value)} {oc_l_then kV_l_then dc_l_then pm_l_then cd_l_then ct_l_then : Value}
    {f_l_back : Addr} {od_l_back an_l_back : Option Addr} {sl_l_back : Array (Option Value)} {oc_l_back kV_l_back dc_l_back pm_l_back cd_l_back ct_l_back : Value}
    {f_l_perm : Addr} {od_l_perm an_l_perm : Option Addr} {sl_l_perm : Array (Option Value)} {oc_l_perm kV_l_perm dc_l_perm pm_l_perm cd_l_perm ct_l_perm : Value}
    {f_l_told : Addr} {od_l_told an_l_told : Option Addr} {sl_l_told : Array (Option Value)} {oc_l_told kV_l_told dc_l_told pm_l_told cd_l_told ct_l_told : Value}
    {f_l_is_perm : Addr} {od_l_is_perm an_l_is_perm : Option Addr} {sl_l_is_perm : Array (Option Value)} {oc_l_is_perm kV_l_is_perm dc_l_is_perm pm_l_is_perm cd_l_is_perm ct_l_is_perm : Value}
    {f_l_odd : Addr} {od_l_odd an_l_odd : Option Addr} {sl_l_odd : Array (Option Value)} {oc_l_odd kV_l_odd dc_l_odd pm_l_odd cd_l_odd ct_l_odd : Value}
    {f_l_power : Addr} {od_l_power an_l_power : Option Addr} {sl_l_power : Array (Option Value)} {oc_l_power kV_l_power dc_l_power pm_l_power cd_l_power ct_l_power : Value}
    {f_law cc PT : Addr} {od_law an_law dC : Option Addr} {sl_law slC : Array (Option Value)} {oc_law kV_law dc_law pm_law ct_law eC : Value} {vC : Array Value}
    {CH : Addr} {tP tT : Tok}
    {CP IP : Addr} {odP anP : Option Addr} {slP : Array (Option Value)} {ocP dVP kVP dcP pmP cdP ctP : Value}
    {CN IN : Addr} {odN anN : Option Addr} {slN : Array (Option Value)} {ocN dVN kVN dcN pmN cdN ctN : Value}
    (a_is_whole : PySem.W.nsIn K mainGlobals "is_whole" = some (some (.ref f_is_whole)))
    (l_is_whole : K.lookup f_is_whole = some ⟨oc_is_whole, od_is_whole, .func (PySem.W.fnOf "is_whole" "is_whole" (defArgs s_is_whole) (defBody s_is_whole) (defScope s_is_whole) .none kV_is_whole dc_is_whole pm_is_whole an_is_whole cd_is_whole ct_is_whole), sl_is_whole⟩)
    (c_is_whole : PySem.W.codeIn K cd_is_whole "is_whole" = true)
    (k_is_whole : PySem.W.keepIn K (.ref f_is_whole) = true)
    (a_is_perm : PySem.W.nsIn K mainGlobals "is_perm" = some (some (.ref f_is_perm)))
    (l_is_perm : K.lookup f_is_perm = some ⟨oc_is_perm, od_is_perm, .func (PySem.W.fnOf "is_perm" "is_perm" (defArgs s_is_perm) (defBody s_is_perm) (defScope s_is_perm) .none kV_is_perm dc_is_perm pm_is_perm an_is_perm cd_is_perm ct_is_perm), sl_is_perm⟩)
    (c_is_perm : PySem.W.codeIn K cd_is_perm "is_perm" = true)
    (k_is_perm : PySem.W.keepIn K (.ref f_is_perm) = true)
    (a_is_perm_of : PySem.W.nsIn K mainGlobals "is_perm_of" = some (some (.ref f_is_perm_of)))
    (l_is_perm_of : K.lookup f_is_perm_of = some ⟨oc_is_perm_of, od_is_perm_of, .func (PySem.W.fnOf "is_perm_of" "is_perm_of" (defArgs s_is_perm_of) (defBody s_is_perm_of) (defScope s_is_perm_of) .none kV_is_perm_of dc_is_perm_of pm_is_perm_of an_is_perm_of cd_is_perm_of ct_is_perm_of), sl_is_perm_of⟩)
    (c_is_perm_of : PySem.W.codeIn K cd_is_perm_of "is_perm_of" = true)
    (k_is_perm_of : PySem.W.keepIn K (.ref f_is_perm_of) = true)
    (a_need_perm : PySem.W.nsIn K mainGlobals "need_perm" = some (some (.ref f_need_perm)))
    (l_need_perm : K.lookup f_need_perm = some ⟨oc_need_perm, od_need_perm, .func (PySem.W.fnOf "need_perm" "need_perm" (defArgs s_need_perm) (defBody s_need_perm) (defScope s_need_perm) .none kV_need_perm dc_need_perm pm_need_perm an_need_perm cd_need_perm ct_need_perm), sl_need_perm⟩)
    (c_need_perm : PySem.W.codeIn K cd_need_perm "need_perm" = true)
    (k_need_perm : PySem.W.keepIn K (.ref f_need_perm) = true)
    (a_need_same : PySem.W.nsIn K mainGlobals "need_same" = some (some (.ref f_need_same)))
    (l_need_same : K.lookup f_need_same = some ⟨oc_need_same, od_need_same, .func (PySem.W.fnOf "need_same" "need_same" (defArgs s_need_same) (defBody s_need_same) (defScope s_need_same) .none kV_need_same dc_need_same pm_need_same an_need_same cd_need_same ct_need_same), sl_need_same⟩)
    (c_need_same : PySem.W.codeIn K cd_need_same "need_same" = true)
    (k_need_same : PySem.W.keepIn K (.ref f_need_same) = true)
    (a_need_size : PySem.W.nsIn K mainGlobals "need_size" = some (some (.ref f_need_size)))
    (l_need_size : K.lookup f_need_size = some ⟨oc_need_size, od_need_size, .func (PySem.W.fnOf "need_size" "need_size" (defArgs s_need_size) (defBody s_need_size) (defScope s_need_size) .none kV_need_size dc_need_size pm_need_size an_need_size cd_need_size ct_need_size), sl_need_size⟩)
    (c_need_size : PySem.W.codeIn K cd_need_size "need_size" = true)
    (k_need_size : PySem.W.keepIn K (.ref f_need_size) = true)
    (a_own_then : PySem.W.nsIn K mainGlobals "own_then" = some (some (.ref f_own_then)))
    (l_own_then : K.lookup f_own_then = some ⟨oc_own_then, od_own_then, .func (PySem.W.fnOf "own_then" "own_then" (defArgs s_own_then) (defBody s_own_then) (defScope s_own_then) .none kV_own_then dc_own_then pm_own_then an_own_then cd_own_then ct_own_then), sl_own_then⟩)
    (c_own_then : PySem.W.codeIn K cd_own_then "own_then" = true)
    (k_own_then : PySem.W.keepIn K (.ref f_own_then) = true)
    (a_own_back : PySem.W.nsIn K mainGlobals "own_back" = some (some (.ref f_own_back)))
    (l_own_back : K.lookup f_own_back = some ⟨oc_own_back, od_own_back, .func (PySem.W.fnOf "own_back" "own_back" (defArgs s_own_back) (defBody s_own_back) (defScope s_own_back) .none kV_own_back dc_own_back pm_own_back an_own_back cd_own_back ct_own_back), sl_own_back⟩)
    (c_own_back : PySem.W.codeIn K cd_own_back "own_back" = true)
    (k_own_back : PySem.W.keepIn K (.ref f_own_back) = true)
    (a_own_identity : PySem.W.nsIn K mainGlobals "own_identity" = some (some (.ref f_own_identity)))
    (l_own_identity : K.lookup f_own_identity = some ⟨oc_own_identity, od_own_identity, .func (PySem.W.fnOf "own_identity" "own_identity" (defArgs s_own_identity) (defBody s_own_identity) (defScope s_own_identity) .none kV_own_identity dc_own_identity pm_own_identity an_own_identity cd_own_identity ct_own_identity), sl_own_identity⟩)
    (c_own_identity : PySem.W.codeIn K cd_own_identity "own_identity" = true)
    (k_own_identity : PySem.W.keepIn K (.ref f_own_identity) = true)
    (a_then : PySem.W.nsIn K mainGlobals "then" = some (some (.ref f_then)))
    (l_then : K.lookup f_then = some ⟨oc_then, od_then, .func (PySem.W.fnOf "then" "then" (defArgs s_then) (defBody s_then) (defScope s_then) .none kV_then dc_then pm_then an_then cd_then ct_then), sl_then⟩)
    (c_then : PySem.W.codeIn K cd_then "then" = true)
    (k_then : PySem.W.keepIn K (.ref f_then) = true)
    (a_back : PySem.W.nsIn K mainGlobals "back" = some (some (.ref f_back)))
    (l_back : K.lookup f_back = some ⟨oc_back, od_back, .func (PySem.W.fnOf "back" "back" (defArgs s_back) (defBody s_back) (defScope s_back) .none kV_back dc_back pm_back an_back cd_back ct_back), sl_back⟩)
    (c_back : PySem.W.codeIn K cd_back "back" = true)
    (k_back : PySem.W.keepIn K (.ref f_back) = true)
    (a_identity : PySem.W.nsIn K mainGlobals "identity" = some (some (.ref f_identity)))
    (l_identity : K.lookup f_identity = some ⟨oc_identity, od_identity, .func (PySem.W.fnOf "identity" "identity" (defArgs s_identity) (defBody s_identity) (defScope s_identity) .none kV_identity dc_identity pm_identity an_identity cd_identity ct_identity), sl_identity⟩)
    (c_identity : PySem.W.codeIn K cd_identity "identity" = true)
    (k_identity : PySem.W.keepIn K (.ref f_identity) = true)
    (a_power : PySem.W.nsIn K mainGlobals "power" = some (some (.ref f_power)))
    (l_power : K.lookup f_power = some ⟨oc_power, od_power, .func (PySem.W.fnOf "power" "power" (defArgs s_power) (defBody s_power) (defScope s_power) .none kV_power dc_power pm_power an_power cd_power ct_power), sl_power⟩)
    (c_power : PySem.W.codeIn K cd_power "power" = true)
    (k_power : PySem.W.keepIn K (.ref f_power) = true)
    (a_l_mixed : PySem.W.nsIn K mainGlobals "_law_mixed" = some (some (.ref f_l_mixed)))
    (l_l_mixed : K.lookup f_l_mixed = some ⟨oc_l_mixed, od_l_mixed, .func (PySem.W.fnOf "_law_mixed" "_law_mixed" (defArgs s_l_mixed) (defBody s_l_mixed) (defScope s_l_mixed) .none kV_l_mixed dc_l_mixed pm_l_mixed an_l_mixed cd_l_mixed ct_l_mixed), sl_l_mixed⟩)
    (c_l_mixed : PySem.W.codeIn K cd_l_mixed "_law_mixed" = true)
    (k_l_mixed : PySem.W.keepIn K (.ref f_l_mixed) = true)
    (a_l_draw : PySem.W.nsIn K mainGlobals "_law_draw" = some (some (.ref f_l_draw)))
    (l_l_draw : K.lookup f_l_draw = some ⟨oc_l_draw, od_l_draw, .func (PySem.W.fnOf "_law_draw" "_law_draw" (defArgs s_l_draw) (defBody s_l_draw) (defScope s_l_draw) .none kV_l_draw dc_l_draw pm_l_draw an_l_draw cd_l_draw ct_l_draw), sl_l_draw⟩)
    (c_l_draw : PySem.W.codeIn K cd_l_draw "_law_draw" = true)
    (k_l_draw : PySem.W.keepIn K (.ref f_l_draw) = true)
    (a_l_digit : PySem.W.nsIn K mainGlobals "_law_digit" = some (some (.ref f_l_digit)))
    (l_l_digit : K.lookup f_l_digit = some ⟨oc_l_digit, od_l_digit, .func (PySem.W.fnOf "_law_digit" "_law_digit" (defArgs s_l_digit) (defBody s_l_digit) (defScope s_l_digit) .none kV_l_digit dc_l_digit pm_l_digit an_l_digit cd_l_digit ct_l_digit), sl_l_digit⟩)
    (c_l_digit : PySem.W.codeIn K cd_l_digit "_law_digit" = true)
    (k_l_digit : PySem.W.keepIn K (.ref f_l_digit) = true)
    (a_l_then : PySem.W.nsIn K mainGlobals "_law_then" = some (some (.ref f_l_then)))
    (l_l_then : K.lookup f_l_then = some ⟨oc_l_then, od_l_then, .func (PySem.W.fnOf "_law_then" "_law_then" (defArgs s_l_then) (defBody s_l_then) (defScope s_l_then) .none kV_l_then dc_l_then pm_l_then an_l_then cd_l_then ct_l_then), sl_l_then⟩)
    (c_l_then : PySem.W.codeIn K cd_l_then "_law_then" = true)
    (k_l_then : PySem.W.keepIn K (.ref f_l_then) = true)
    (a_l_back : PySem.W.nsIn K mainGlobals "_law_back" = some (some (.ref f_l_back)))
    (l_l_back : K.lookup f_l_back = some ⟨oc_l_back, od_l_back, .func (PySem.W.fnOf "_law_back" "_law_back" (defArgs s_l_back) (defBody s_l_back) (defScope s_l_back) .none kV_l_back dc_l_back pm_l_back an_l_back cd_l_back ct_l_back), sl_l_back⟩)
    (c_l_back : PySem.W.codeIn K cd_l_back "_law_back" = true)
    (k_l_back : PySem.W.keepIn K (.ref f_l_back) = true)
    (a_l_perm : PySem.W.nsIn K mainGlobals "_law_perm" = some (some (.ref f_l_perm)))
    (l_l_perm : K.lookup f_l_perm = some ⟨oc_l_perm, od_l_perm, .func (PySem.W.fnOf "_law_perm" "_law_perm" (defArgs s_l_perm) (defBody s_l_perm) (defScope s_l_perm) .none kV_l_perm dc_l_perm pm_l_perm an_l_perm cd_l_perm ct_l_perm), sl_l_perm⟩)
    (c_l_perm : PySem.W.codeIn K cd_l_perm "_law_perm" = true)
    (k_l_perm : PySem.W.keepIn K (.ref f_l_perm) = true)
    (a_l_told : PySem.W.nsIn K mainGlobals "_law_told" = some (some (.ref f_l_told)))
    (l_l_told : K.lookup f_l_told = some ⟨oc_l_told, od_l_told, .func (PySem.W.fnOf "_law_told" "_law_told" (defArgs s_l_told) (defBody s_l_told) (defScope s_l_told) .none kV_l_told dc_l_told pm_l_told an_l_told cd_l_told ct_l_told), sl_l_told⟩)
    (c_l_told : PySem.W.codeIn K cd_l_told "_law_told" = true)
    (k_l_told : PySem.W.keepIn K (.ref f_l_told) = true)
    (a_l_is_perm : PySem.W.nsIn K mainGlobals "_law_is_perm" = some (some (.ref f_l_is_perm)))
    (l_l_is_perm : K.lookup f_l_is_perm = some ⟨oc_l_is_perm, od_l_is_perm, .func (PySem.W.fnOf "_law_is_perm" "_law_is_perm" (defArgs s_l_is_perm) (defBody s_l_is_perm) (defScope s_l_is_perm) .none kV_l_is_perm dc_l_is_perm pm_l_is_perm an_l_is_perm cd_l_is_perm ct_l_is_perm), sl_l_is_perm⟩)
    (c_l_is_perm : PySem.W.codeIn K cd_l_is_perm "_law_is_perm" = true)
    (k_l_is_perm : PySem.W.keepIn K (.ref f_l_is_perm) = true)
    (a_l_odd : PySem.W.nsIn K mainGlobals "_law_odd" = some (some (.ref f_l_odd)))
    (l_l_odd : K.lookup f_l_odd = some ⟨oc_l_odd, od_l_odd, .func (PySem.W.fnOf "_law_odd" "_law_odd" (defArgs s_l_odd) (defBody s_l_odd) (defScope s_l_odd) .none kV_l_odd dc_l_odd pm_l_odd an_l_odd cd_l_odd ct_l_odd), sl_l_odd⟩)
    (c_l_odd : PySem.W.codeIn K cd_l_odd "_law_odd" = true)
    (k_l_odd : PySem.W.keepIn K (.ref f_l_odd) = true)
    (a_l_power : PySem.W.nsIn K mainGlobals "_law_power" = some (some (.ref f_l_power)))
    (l_l_power : K.lookup f_l_power = some ⟨oc_l_power, od_l_power, .func (PySem.W.fnOf "_law_power" "_law_power" (defArgs s_l_power) (defBody s_l_power) (defScope s_l_power) .none kV_l_power dc_l_power pm_l_power an_l_power cd_l_power ct_l_power), sl_l_power⟩)
    (c_l_power : PySem.W.codeIn K cd_l_power "_law_power" = true)
    (k_l_power : PySem.W.keepIn K (.ref f_l_power) = true)
    (a_law : PySem.W.nsIn K mainGlobals "law" = some (some (.ref f_law)))
    (l_law : K.lookup f_law = some ⟨oc_law, od_law, .func (PySem.W.fnOf "law" "law" (defArgs s_law) (defBody s_law) (defScope s_law) .none kV_law dc_law pm_law an_law (.ref cc) ct_law), sl_law⟩)
    (c_law : PySem.W.codeIn K (.ref cc) "law" = true)
    (k_law : PySem.W.keepIn K (.ref f_law) = true)
    (lC : K.lookup cc = some ⟨eC, dC, .fields vC, slC⟩)
    (v11 : vC[11]? = some (.ref PT))
    (hCd : PySem.W.codeHdIn K cc PT = true)
    (nT : K.lookup PT = none)
    (aCH : PySem.W.nsIn K mainGlobals "HomeError" = some (some (.ref CH)))
    (hH1 : PySem.W.readsIn K CH (.type "type") = true)
    (hH2 : PySem.W.specialIn K (.ref CH) "__getattribute__" = some (some (.builtin "type.__getattribute__")))
    (hH3 : PySem.W.findCls K (.ref CH) (.type "type") "__init__" = some (.val (.builtin "ValueError.__init__")))
    (aCP : PySem.W.nsIn K mainGlobals "BadPerm" = some (some (.ref CP)))
    (iCP : PySem.W.findIn K (.ref CP) "__init__" = some (some (.ref IP)))
    (lIP : K.lookup IP = some ⟨ocP, odP, .func (PySem.W.fnOf "__init__" "BadPerm.__init__" (defArgs (inClass c_BadPerm 0)) (defBody (inClass c_BadPerm 0)) (defScope (inClass c_BadPerm 0)) dVP kVP dcP pmP anP cdP ctP), slP⟩)
    (cIP : PySem.W.codeIn K cdP "BadPerm.__init__" = true)
    (hxP : xmB K CP IP dVP true "ValueError.__new__" [.type "ValueError", .type "Exception", .type "BaseException", .type "object"] "value" = true)
    (hqP : xqB K CP "value" = true)
    (aCN : PySem.W.nsIn K mainGlobals "BadNumber" = some (some (.ref CN)))
    (iCN : PySem.W.findIn K (.ref CN) "__init__" = some (some (.ref IN)))
    (lIN : K.lookup IN = some ⟨ocN, odN, .func (PySem.W.fnOf "__init__" "BadNumber.__init__" (defArgs (inClass c_BadNumber 0)) (defBody (inClass c_BadNumber 0)) (defScope (inClass c_BadNumber 0)) dVN kVN dcN pmN anN cdN ctN), slN⟩)
    (cIN : PySem.W.codeIn K cdN "BadNumber.__init__" = true)
    (hxN : xmB K CN IN dVN true "ValueError.__new__" [.type "ValueError", .type "Exception", .type "BaseException", .type "object"] "value" = true)
    (hqN : xqB K CN "value" = true)
    (hh : xhB K CP CN CH = true)
    (hg1 : PySem.W.specialIn K (.builtin "object.__class__") "__get__" = some (some (.builtin "getset_descriptor.__get__")))
    (hg2 : PySem.W.takesIn K (.builtin "object.__class__") = some true)
    (gP : PySem.W.nsIn K mainGlobals "MOST_PLACES" = some (some (.int 24 tP)))
    (gT : PySem.W.nsIn K mainGlobals "MOST_TIMES" = some (some (.int 1000000 tT)))
    (z_len : PySem.W.nsIn K mainGlobals "len" = some none)
    (z_isinstance : PySem.W.nsIn K mainGlobals "isinstance" = some none)
    (z_int : PySem.W.nsIn K mainGlobals "int" = some none)
    (z_bool : PySem.W.nsIn K mainGlobals "bool" = some none)
    (z_str : PySem.W.nsIn K mainGlobals "str" = some none)
    (z_tuple : PySem.W.nsIn K mainGlobals "tuple" = some none)
    (z_list : PySem.W.nsIn K mainGlobals "list" = some none)
    (z_set : PySem.W.nsIn K mainGlobals "set" = some none)
    (z_dict : PySem.W.nsIn K mainGlobals "dict" = some none)
    (z_range : PySem.W.nsIn K mainGlobals "range" = some none)
    (z_enumerate : PySem.W.nsIn K mainGlobals "enumerate" = some none)
    (z_all : PySem.W.nsIn K mainGlobals "all" = some none)
    (z_any : PySem.W.nsIn K mainGlobals "any" = some none)
    (z_abs : PySem.W.nsIn K mainGlobals "abs" = some none)
    (z_min : PySem.W.nsIn K mainGlobals "min" = some none)
    (z_max : PySem.W.nsIn K mainGlobals "max" = some none)
    (z_sum : PySem.W.nsIn K mainGlobals "sum" = some none)
    (z_sorted : PySem.W.nsIn K mainGlobals "sorted" = some none)
    (z_repr : PySem.W.nsIn K mainGlobals "repr" = some none)
    (z_ValueError : PySem.W.nsIn K mainGlobals "ValueError" = some none)
    : LawG l.prog w K 63 8 mg fa h := by
  have e := hfa.symm.trans (PySem.W.mg_of X G a_law)
  cases e
  refine ⟨PySem.W.fnOf "law" "law" (defArgs s_law) (defBody s_law) (defScope s_law) .none kV_law dc_law pm_law an_law (.ref cc) ct_law, cc, PT, spLaw K [(PT, ("law" : Str) ++ (".<locals>." : Str) ++ "<lambda>")], ow _ _ _ _ _ _ _ _ l_law rfl rfl lC v11, nT, PySem.W.codeHd_of_K X hCd, fun s v => .of_eq rfl, fun H a ns h1 h2 h3 h4 => spLaw_tab h3 h4 h1 h2, fun base _ _ TB => ?_⟩
  obtain ⟨m, em⟩ : ∃ m : Ms, m = ⟨l.prog, w, K, [(PT, ("law" : Str) ++ (".<locals>." : Str) ++ "<lambda>")], mg, base⟩ := ⟨_, rfl⟩
  have eP : l.prog = m.P := by rw [em]
  have h_is_whole : HasD ⟨l.prog, w, K, [(PT, ("law" : Str) ++ (".<locals>." : Str) ++ "<lambda>")], mg, base⟩ "is_whole" s_is_whole ["thing", "least", "most"] := hasD_mk X G a_is_whole l_is_whole c_is_whole k_is_whole (fun _ _ _ _ _ _ us hl => match us, hl with | [_, _, _], _ => rfl)
  have h_is_perm : HasD ⟨l.prog, w, K, [(PT, ("law" : Str) ++ (".<locals>." : Str) ++ "<lambda>")], mg, base⟩ "is_perm" s_is_perm ["thing"] := hasD_mk X G a_is_perm l_is_perm c_is_perm k_is_perm (fun _ _ _ _ _ _ us hl => match us, hl with | [_], _ => rfl)
  have h_is_perm_of : HasD ⟨l.prog, w, K, [(PT, ("law" : Str) ++ (".<locals>." : Str) ++ "<lambda>")], mg, base⟩ "is_perm_of" s_is_perm_of ["size", "thing"] := hasD_mk X G a_is_perm_of l_is_perm_of c_is_perm_of k_is_perm_of (fun _ _ _ _ _ _ us hl => match us, hl with | [_, _], _ => rfl)
  have h_need_perm : HasD ⟨l.prog, w, K, [(PT, ("law" : Str) ++ (".<locals>." : Str) ++ "<lambda>")], mg, base⟩ "need_perm" s_need_perm ["perm"] := hasD_mk X G a_need_perm l_need_perm c_need_perm k_need_perm (fun _ _ _ _ _ _ us hl => match us, hl with | [_], _ => rfl)
  have h_need_same : HasD ⟨l.prog, w, K, [(PT, ("law" : Str) ++ (".<locals>." : Str) ++ "<lambda>")], mg, base⟩ "need_same" s_need_same ["one", "other"] := hasD_mk X G a_need_same l_need_same c_need_same k_need_same (fun _ _ _ _ _ _ us hl => match us, hl with | [_, _], _ => rfl)
  have h_need_size : HasD ⟨l.prog, w, K, [(PT, ("law" : Str) ++ (".<locals>." : Str) ++ "<lambda>")], mg, base⟩ "need_size" s_need_size ["size"] := hasD_mk X G a_need_size l_need_size c_need_size k_need_size (fun _ _ _ _ _ _ us hl => match us, hl with | [_], _ => rfl)
  have h_own_then : HasD ⟨l.prog, w, K, [(PT, ("law" : Str) ++ (".<locals>." : Str) ++ "<lambda>")], mg, base⟩ "own_then" s_own_then ["one", "other"] := hasD_mk X G a_own_then l_own_then c_own_then k_own_then (fun _ _ _ _ _ _ us hl => match us, hl with | [_, _], _ => rfl)
  have h_own_back : HasD ⟨l.prog, w, K, [(PT, ("law" : Str) ++ (".<locals>." : Str) ++ "<lambda>")], mg, base⟩ "own_back" s_own_back ["perm"] := hasD_mk X G a_own_back l_own_back c_own_back k_own_back (fun _ _ _ _ _ _ us hl => match us, hl with | [_], _ => rfl)
  have h_own_identity : HasD ⟨l.prog, w, K, [(PT, ("law" : Str) ++ (".<locals>." : Str) ++ "<lambda>")], mg, base⟩ "own_identity" s_own_identity ["size"] := hasD_mk X G a_own_identity l_own_identity c_own_identity k_own_identity (fun _ _ _ _ _ _ us hl => match us, hl with | [_], _ => rfl)
  have h_then : HasD ⟨l.prog, w, K, [(PT, ("law" : Str) ++ (".<locals>." : Str) ++ "<lambda>")], mg, base⟩ "then" s_then ["one", "other"] := hasD_mk X G a_then l_then c_then k_then (fun _ _ _ _ _ _ us hl => match us, hl with | [_, _], _ => rfl)
  have h_back : HasD ⟨l.prog, w, K, [(PT, ("law" : Str) ++ (".<locals>." : Str) ++ "<lambda>")], mg, base⟩ "back" s_back ["perm"] := hasD_mk X G a_back l_back c_back k_back (fun _ _ _ _ _ _ us hl => match us, hl with | [_], _ => rfl)
  have h_identity : HasD ⟨l.prog, w, K, [(PT, ("law" : Str) ++ (".<locals>." : Str) ++ "<lambda>")], mg, base⟩ "identity" s_identity ["size"] := hasD_mk X G a_identity l_identity c_identity k_identity (fun _ _ _ _ _ _ us hl => match us, hl with | [_], _ => rfl)
  have h_power : HasD ⟨l.prog, w, K, [(PT, ("law" : Str) ++ (".<locals>." : Str) ++ "<lambda>")], mg, base⟩ "power" s_power ["perm", "times"] := hasD_mk X G a_power l_power c_power k_power (fun _ _ _ _ _ _ us hl => match us, hl with | [_, _], _ => rfl)
  have h_l_mixed : HasD ⟨l.prog, w, K, [(PT, ("law" : Str) ++ (".<locals>." : Str) ++ "<lambda>")], mg, base⟩ "_law_mixed" s_l_mixed ["cell", "k"] := hasD_mk X G a_l_mixed l_l_mixed c_l_mixed k_l_mixed (fun _ _ _ _ _ _ us hl => match us, hl with | [_, _], _ => rfl)
  have h_l_draw : HasD ⟨l.prog, w, K, [(PT, ("law" : Str) ++ (".<locals>." : Str) ++ "<lambda>")], mg, base⟩ "_law_draw" s_l_draw ["cell", "k"] := hasD_mk X G a_l_draw l_l_draw c_l_draw k_l_draw (fun _ _ _ _ _ _ us hl => match us, hl with | [_, _], _ => rfl)
  have h_l_digit : HasD ⟨l.prog, w, K, [(PT, ("law" : Str) ++ (".<locals>." : Str) ++ "<lambda>")], mg, base⟩ "_law_digit" s_l_digit ["state", "below"] := hasD_mk X G a_l_digit l_l_digit c_l_digit k_l_digit (fun _ _ _ _ _ _ us hl => match us, hl with | [_, _], _ => rfl)
  have h_l_then : HasD ⟨l.prog, w, K, [(PT, ("law" : Str) ++ (".<locals>." : Str) ++ "<lambda>")], mg, base⟩ "_law_then" s_l_then ["one", "other"] := hasD_mk X G a_l_then l_l_then c_l_then k_l_then (fun _ _ _ _ _ _ us hl => match us, hl with | [_, _], _ => rfl)
  have h_l_back : HasD ⟨l.prog, w, K, [(PT, ("law" : Str) ++ (".<locals>." : Str) ++ "<lambda>")], mg, base⟩ "_law_back" s_l_back ["perm"] := hasD_mk X G a_l_back l_l_back c_l_back k_l_back (fun _ _ _ _ _ _ us hl => match us, hl with | [_], _ => rfl)
  have h_l_perm : HasD ⟨l.prog, w, K, [(PT, ("law" : Str) ++ (".<locals>." : Str) ++ "<lambda>")], mg, base⟩ "_law_perm" s_l_perm ["state", "size"] := hasD_mk X G a_l_perm l_l_perm c_l_perm k_l_perm (fun _ _ _ _ _ _ us hl => match us, hl with | [_, _], _ => rfl)
  have h_l_told : HasD ⟨l.prog, w, K, [(PT, ("law" : Str) ++ (".<locals>." : Str) ++ "<lambda>")], mg, base⟩ "_law_told" s_l_told ["deed"] := hasD_mk X G a_l_told l_l_told c_l_told k_l_told (fun _ _ _ _ _ _ us hl => match us, hl with | [_], _ => rfl)
  have h_l_is_perm : HasD ⟨l.prog, w, K, [(PT, ("law" : Str) ++ (".<locals>." : Str) ++ "<lambda>")], mg, base⟩ "_law_is_perm" s_l_is_perm ["thing"] := hasD_mk X G a_l_is_perm l_l_is_perm c_l_is_perm k_l_is_perm (fun _ _ _ _ _ _ us hl => match us, hl with | [_], _ => rfl)
  have h_l_odd : HasD ⟨l.prog, w, K, [(PT, ("law" : Str) ++ (".<locals>." : Str) ++ "<lambda>")], mg, base⟩ "_law_odd" s_l_odd ["state", "perm"] := hasD_mk X G a_l_odd l_l_odd c_l_odd k_l_odd (fun _ _ _ _ _ _ us hl => match us, hl with | [_, _], _ => rfl)
  have h_l_power : HasD ⟨l.prog, w, K, [(PT, ("law" : Str) ++ (".<locals>." : Str) ++ "<lambda>")], mg, base⟩ "_law_power" s_l_power ["perm", "times"] := hasD_mk X G a_l_power l_l_power c_l_power k_l_power (fun _ _ _ _ _ _ us hl => match us, hl with | [_, _], _ => rfl)
  have WH : Bi K mg "HomeError" "ValueError.__init__" := ⟨.inl ⟨CH, PySem.W.mg_of X G aCH, hH1, hH2, hH3⟩⟩
  have xP : XM ⟨l.prog, w, K, [(PT, ("law" : Str) ++ (".<locals>." : Str) ++ "<lambda>")], mg, base⟩ "BadPerm" CP "value" "no such permutation" "value" true := by
    obtain ⟨q1, q2, q3, q4, q5, q6, q7, q8, q9⟩ := xmB_ok hxP
    exact xm_mk (st := (inClass c_BadPerm 0)) X G true aCP q1 iCP q2 lIP cIP q3 q4 PySem.F.excBase_ValueError PySem.F.store_ValueError q5 q6 q7 q8 WH q9 ⟨rfl, rfl, rfl, by decide +kernel, rfl, by decide +kernel, by decide +kernel⟩ rfl rfl rfl rfl rfl rfl rfl rfl _ (fun _ => rfl) (fun _ _ _ _ _ _ _ _ _ _ _ => ⟨⟨_, rfl, rfl⟩, ⟨_, rfl, rfl⟩, ⟨_, rfl, rfl⟩⟩) (fun q => by cases q)
  have xN : XM ⟨l.prog, w, K, [(PT, ("law" : Str) ++ (".<locals>." : Str) ++ "<lambda>")], mg, base⟩ "BadNumber" CN "value" "no such number" "value" true := by
    obtain ⟨q1, q2, q3, q4, q5, q6, q7, q8, q9⟩ := xmB_ok hxN
    exact xm_mk (st := (inClass c_BadNumber 0)) X G true aCN q1 iCN q2 lIN cIN q3 q4 PySem.F.excBase_ValueError PySem.F.store_ValueError q5 q6 q7 q8 WH q9 ⟨rfl, rfl, rfl, by decide +kernel, rfl, by decide +kernel, by decide +kernel⟩ rfl rfl rfl rfl rfl rfl rfl rfl _ (fun _ => rfl) (fun _ _ _ _ _ _ _ _ _ _ _ => ⟨⟨_, rfl, rfl⟩, ⟨_, rfl, rfl⟩, ⟨_, rfl, rfl⟩⟩) (fun q => by cases q)
  obtain ⟨e1, e2, e3, e4, e5, e6, e7, e8⟩ := xhB_ok hh
  have Z : Std mg := ⟨PySem.W.mg_none_of X G z_len, PySem.W.mg_none_of X G z_isinstance, PySem.W.mg_none_of X G z_int, PySem.W.mg_none_of X G z_bool, PySem.W.mg_none_of X G z_str, PySem.W.mg_none_of X G z_tuple, PySem.W.mg_none_of X G z_list, PySem.W.mg_none_of X G z_set, PySem.W.mg_none_of X G z_dict, PySem.W.mg_none_of X G z_range, PySem.W.mg_none_of X G z_enumerate, PySem.W.mg_none_of X G z_all, PySem.W.mg_none_of X G z_any, PySem.W.mg_none_of X G z_abs, PySem.W.mg_none_of X G z_min, PySem.W.mg_none_of X G z_max, PySem.W.mg_none_of X G z_sum, PySem.W.mg_none_of X G z_sorted, PySem.W.mg_none_of X G z_repr⟩
  have B : XB ⟨l.prog, w, K, [(PT, ("law" : Str) ++ (".<locals>." : Str) ++ "<lambda>")], mg, base⟩ CP CN := ⟨xP, xN, (xqB_ok hqP).1, (xqB_ok hqN).1, e7, e8, (xqB_ok hqP).2, (xqB_ok hqN).2⟩
  have H : XH ⟨l.prog, w, K, [(PT, ("law" : Str) ++ (".<locals>." : Str) ++ "<lambda>")], mg, base⟩ CP CN CH := ⟨PySem.W.mg_of X G aCP, PySem.W.mg_of X G aCN, PySem.W.mg_of X G aCH, PySem.W.mg_none_of X G z_ValueError, e1, e2, e3, e4, e5, e6, ⟨hg1, hg2⟩⟩
  have gP' : GI mg "MOST_PLACES" 24 := ⟨tP, PySem.W.mg_of X G gP⟩
  have gT' : GI mg "MOST_TIMES" 1000000 := ⟨tT, PySem.W.mg_of X G gT⟩
  have Fm := ok_mixed h_l_mixed
  have Fdr := ok_draw h_l_draw
  have Fdg := ok_digit h_l_digit Z.range Fm
  have Fw := ok_is_whole Z h_is_whole
  have Fp := ok_is_perm Z gP' Fw h_is_perm
  have Fpo := ok_is_perm_of Z Fp h_is_perm_of
  have Fnp := ok_need_perm B Fp h_need_perm
  have Fns := ok_need_same Z B Fnp Fpo h_need_same
  have Fnz := ok_need_size B gP' Fw h_need_size
  have Fot := ok_own_then Z h_own_then
  have Fob := ok_own_back Z h_own_back
  have Foi := ok_own_identity Z h_own_identity
  have Fth := ok_then Fns Fot h_then
  have Fba := ok_back Fnp Fob h_back
  have Fid := ok_identity Fnz Foi h_identity
  have Fpw := ok_power Z B gT' Fnp Fw Fot Fob Foi h_power
  exact ok_law (fun_mk l_law c_law k_law) rfl TB rfl ⟨Z, B, H, Fdr, Fdg, Fnp, Fth, Fba, Fid, Fpw, ok_l_then Z h_l_then, ok_l_back Z h_l_back, ok_l_perm Z Fdg h_l_perm, ok_l_is_perm Z h_l_is_perm, ok_l_odd Z Fdg h_l_odd, ok_l_power Z h_l_power, h_l_told⟩
end K

open PySem PySem.W PyProof.Rows in
set_option maxRecDepth 100000 in
set_option maxHeartbeats 0 in
theorem PySem.Challenge.cw_siftedhome_k00_permutations_holds : PySem.Challenge.rw_siftedhome_k00_permutations.Holds := by
  w_on; o_law; k_head; (case hw => w_witness2)
  k_fill
  refine DL.walk_ownG (n := 63) (k := 8) (l := PySem.Challenge.rw_siftedhome_k00_permutations) rfl (by decide) rfl ⟨rfl, by decide, by decide⟩ (by kernel_rfl) (fun w h Y => PySem.W.km_in_of Y) ?F
  case F =>
    intro w mg fa h KX G hmg ow
    refine' K.all_mk KX G hmg ow ?a_is_whole ?l_is_whole ?c_is_whole ?k_is_whole ?a_is_perm ?l_is_perm ?c_is_perm ?k_is_perm ?a_is_perm_of ?l_is_perm_of ?c_is_perm_of ?k_is_perm_of ?a_need_perm ?l_need_perm ?c_need_perm ?k_need_perm ?a_need_same ?l_need_same ?c_need_same ?k_need_same ?a_need_size ?l_need_size ?c_need_size ?k_need_size ?a_own_then ?l_own_then ?c_own_then ?k_own_then ?a_own_back ?l_own_back ?c_own_back ?k_own_back ?a_own_identity ?l_own_identity ?c_own_identity ?k_own_identity ?a_then ?l_then ?c_then ?k_then ?a_back ?l_back ?c_back ?k_back ?a_identity ?l_identity ?c_identity ?k_identity ?a_power ?l_power ?c_power ?k_power ?a_l_mixed ?l_l_mixed ?c_l_mixed ?k_l_mixed ?a_l_draw ?l_l_draw ?c_l_draw ?k_l_draw ?a_l_digit ?l_l_digit ?c_l_digit ?k_l_digit ?a_l_then ?l_l_then ?c_l_then ?k_l_then ?a_l_back ?l_l_back ?c_l_back ?k_l_back ?a_l_perm ?l_l_perm ?c_l_perm ?k_l_perm ?a_l_told ?l_l_told ?c_l_told ?k_l_told ?a_l_is_perm ?l_l_is_perm ?c_l_is_perm ?k_l_is_perm ?a_l_odd ?l_l_odd ?c_l_odd ?k_l_odd ?a_l_power ?l_l_power ?c_l_power ?k_l_power ?a_law ?l_law ?c_law ?k_law ?lC ?v11 ?hCd ?nT ?aCH ?hH1 ?hH2 ?hH3 ?aCP ?iCP ?lIP ?cIP ?hxP ?hqP ?aCN ?iCN ?lIN ?cIN ?hxN ?hqN ?hh ?hg1 ?hg2 ?gP ?gT ?z_len ?z_isinstance ?z_int ?z_bool ?z_str ?z_tuple ?z_list ?z_set ?z_dict ?z_range ?z_enumerate ?z_all ?z_any ?z_abs ?z_min ?z_max ?z_sum ?z_sorted ?z_repr ?z_ValueError
    (case a_is_whole => k_is)
    (case l_is_whole => k_is)
    (case c_is_whole => k_is)
    (case k_is_whole => k_is)
    (case a_is_perm => k_is)
    (case l_is_perm => k_is)
    (case c_is_perm => k_is)
    (case k_is_perm => k_is)
    (case a_is_perm_of => k_is)
    (case l_is_perm_of => k_is)
    (case c_is_perm_of => k_is)
    (case k_is_perm_of => k_is)
    (case a_need_perm => k_is)
    (case l_need_perm => k_is)
    (case c_need_perm => k_is)
    (case k_need_perm => k_is)
    (case a_need_same => k_is)
    (case l_need_same => k_is)
    (case c_need_same => k_is)
    (case k_need_same => k_is)
    (case a_need_size => k_is)
    (case l_need_size => k_is)
    (case c_need_size => k_is)
    (case k_need_size => k_is)
    (case a_own_then => k_is)
    (case l_own_then => k_is)
    (case c_own_then => k_is)
    (case k_own_then => k_is)
    (case a_own_back => k_is)
    (case l_own_back => k_is)
    (case c_own_back => k_is)
    (case k_own_back => k_is)
    (case a_own_identity => k_is)
    (case l_own_identity => k_is)
    (case c_own_identity => k_is)
    (case k_own_identity => k_is)
    (case a_then => k_is)
    (case l_then => k_is)
    (case c_then => k_is)
    (case k_then => k_is)
    (case a_back => k_is)
    (case l_back => k_is)
    (case c_back => k_is)
    (case k_back => k_is)
    (case a_identity => k_is)
    (case l_identity => k_is)
    (case c_identity => k_is)
    (case k_identity => k_is)
    (case a_power => k_is)
    (case l_power => k_is)
    (case c_power => k_is)
    (case k_power => k_is)
    (case a_l_mixed => k_is)
    (case l_l_mixed => k_is)
    (case c_l_mixed => k_is)
    (case k_l_mixed => k_is)
    (case a_l_draw => k_is)
    (case l_l_draw => k_is)
    (case c_l_draw => k_is)
    (case k_l_draw => k_is)
    (case a_l_digit => k_is)
    (case l_l_digit => k_is)
    (case c_l_digit => k_is)
    (case k_l_digit => k_is)
    (case a_l_then => k_is)
    (case l_l_then => k_is)
    (case c_l_then => k_is)
    (case k_l_then => k_is)
    (case a_l_back => k_is)
    (case l_l_back => k_is)
    (case c_l_back => k_is)
    (case k_l_back => k_is)
    (case a_l_perm => k_is)
    (case l_l_perm => k_is)
    (case c_l_perm => k_is)
    (case k_l_perm => k_is)
    (case a_l_told => k_is)
    (case l_l_told => k_is)
    (case c_l_told => k_is)
    (case k_l_told => k_is)
    (case a_l_is_perm => k_is)
    (case l_l_is_perm => k_is)
    (case c_l_is_perm => k_is)
    (case k_l_is_perm => k_is)
    (case a_l_odd => k_is)
    (case l_l_odd => k_is)
    (case c_l_odd => k_is)
    (case k_l_odd => k_is)
    (case a_l_power => k_is)
    (case l_l_power => k_is)
    (case c_l_power => k_is)
    (case k_l_power => k_is)
    (case a_law => k_is)
    (case l_law => k_is)
    (case c_law => k_is)
    (case k_law => k_is)
    (case lC => k_is)
    (case v11 => rfl)
    (case hCd => kernel_rfl)
    (case nT => kernel_rfl)
    (case aCH => k_is)
    (case hH1 => k_is)
    (case hH2 => k_is)
    (case hH3 => k_is)
    (case aCP => k_is)
    (case iCP => k_is)
    (case lIP => k_is)
    (case cIP => k_is)
    (case hxP => kernel_rfl)
    (case hqP => kernel_rfl)
    (case aCN => k_is)
    (case iCN => k_is)
    (case lIN => k_is)
    (case cIN => k_is)
    (case hxN => kernel_rfl)
    (case hqN => kernel_rfl)
    (case hh => kernel_rfl)
    (case hg1 => k_is)
    (case hg2 => k_is)
    (case gP => k_is)
    (case gT => k_is)
    (case z_len => k_is)
    (case z_isinstance => k_is)
    (case z_int => k_is)
    (case z_bool => k_is)
    (case z_str => k_is)
    (case z_tuple => k_is)
    (case z_list => k_is)
    (case z_set => k_is)
    (case z_dict => k_is)
    (case z_range => k_is)
    (case z_enumerate => k_is)
    (case z_all => k_is)
    (case z_any => k_is)
    (case z_abs => k_is)
    (case z_min => k_is)
    (case z_max => k_is)
    (case z_sum => k_is)
    (case z_sorted => k_is)
    (case z_repr => k_is)
    (case z_ValueError => k_is)
