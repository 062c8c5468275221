import PyProof.Rows.All
import Wide.All
import OpenK.AllK
import Wide.FinOn
import KE.KExcInit
import HandS.ExcInit
import HandS.ExcField
import HandS.ExcIs
import HandS.MakeKw
import HandS.MakeKwOnly
import HandS.ForMost
import HandS.ForExc
import HandS.CallSlots
import HandS.Lambda
import HandS.Wide
import HandS.TupAny
import HandS.Style
import HandS.IsInst
import HandS.Walk
import HandS.TupLen
import KE.GoesMore
import HandS.Property
import HandS.Defaults
import HandS.Star
import KE.KOpsOwn
import KE.GoesEnum
import HandS.HeadNt
import HandS.HeadWalk
import HandS.Head2
import HandS.EndBits
import HandS.TryMany
import PyProof.ReprRoads
import HandS.TupMul
import HandS.Text
import HandS.Codes
import HandS.SetKeys
import HandS.SortKw
import HandS.DictComp
import KE.IntTextLaws
import HandS.ClsMeth
import HandS.FStr
import HandS.FStrTup
import HandS.RaiseMore
import HandS.EndTab
import PyProof.RulesMatch
import HandS.MethStar
import HandS.Deep
import HandS.SortInts
import HandS.More
import KE.GoesEnumKw
import KE.SortData
import PySem.Challenge.RW_farmisses_k13_errors_of_the_package
set_option Elab.async false
set_option linter.all false
set_option maxRecDepth 100000
set_option maxHeartbeats 4000000
namespace PySem
namespace OEG
open PySem.W PySem.Calls PyProof.Rows PySem.HandSPX
section
open Builtin Builtin.ObjectAttr
variable {prog : Program} {w : World} {A : Around} {E : Value → Shared → Prop} {R : Result → Shared → Prop} {hp : Heap} {g : Array GenState} {d : Drawn} {t : Nat} {os : OsState}
/-- the first field of such an exception -/
theorem osa_newG {K : W.Frag} {B : String} {bmB : List Value} {name : Str} {tk : Tok} {v : Value} {x C : Addr} {fv : Array Value} {cd : ClassData} (SB : StoreFacts B bmB "object.__setattr__" "object")
    (X : K.In hp) (hx : hp.get? x = some { cls := .ref C, data := .fields fv }) (hcd : W.clsIn K C = some cd) (hm : W.excTail bmB cd.mro = true) (hne : cd.mro.isEmpty = false) (hh : cd.hasDict = true) (ha : W.findIn K (.ref C) name = some none)
    (hq : ∀ h' tk' dx, (∀ b o, b ≠ x → hp.get? b = some o → h'.get? b = some o) → hp.objs.size ≤ dx → dx ≠ x → h'.get? x = some { cls := .ref C, dict := some dx, data := .fields fv } →
      h'.Ns1 dx (fun y => if y = name then some v else none) → R (.ok (.ret .none)) ⟨h', g, d, tk', os⟩) :
    codeAny (model prog w) A (.call (.builtin "object.__setattr__") ⟨[.ref x, .str name tk, v], []⟩) R ⟨hp, g, d, t, os⟩ := by
  have I : W.InstAt hp x { cls := .ref C, data := .fields fv } C none := ⟨hx, rfl, rfl, trivial⟩
  have SF := F.store_object
  have hob : cd.mro.contains (.type "object") = true := (W.excTail_contains "object" _ hm).trans SB.hasOwner
  have hxs : x ≠ hp.objs.size := Nat.ne_of_lt (Heap.lt_size hx)
  have sub : W.Looks (model prog w) hp (isInstance (.ref x) (.type "object")) true := I.type.andThen (W.looks_mroIn X (by unfold W.mroIn; rw [hcd, Option.bind_some, if_neg (by rw [hne]; decide), hob]))
  refine codeAny_call_builtin SF.slot.plain SF.entry (@W.check_slot (model prog w) _ _ ⟨hp, g, d, t, os⟩ "object.__setattr__" "object" "__setattr__" (.ref x) [.str name tk, v] [] _ SF.kind SF.split sub (SF.args (.ref x) (.str name tk) v) ?_)
  have hmr : W.Looks (model prog w) hp (mroOf (.ref C)) cd.mro := (W.looks_clsIn X hcd).andThen .now
  have L3 : W.Looks (model prog w) hp (storeTaker? none) none := .now
  have hcls : W.Looks (model prog w) hp (classData C) cd := W.looks_clsIn X hcd
  rw [W.osa_eq, refuse_eq]
  refine wpAny_bind (wpAny_bind (I.type.at (wpAny_bind (hmr.at ?_))))
  rw [W.excTail_pass _ (SB.passes _) _ hm]
  refine wpAny_pure (wpAny_bind (I.type.at (wpAny_bind ((W.looks_findIn X ha).at (wpAny_bind (L3.at ?_))))))
  show wpAny _ _ (storeInOwnDict (.ref x) (.ref C) (.str name tk) name v false) _ _ _
  obtain ⟨nm, bs, mro, ns, qn, hd, sn, sb, ab, col, del⟩ := cd
  dsimp only at hh
  subst hh
  unfold storeInOwnDict ownDictForStores
  repeat (first | with_reducible refine store_in_new ?_ ?_ | with_reducible refine wpAny_loadPart_at hx ?_ | with_reducible refine hcls.at ?_ | wp_step)
  · exact ⟨_, #[], _, (Heap.get?_update_ne _ _ _ _ hxs.symm).trans (Heap.get?_push_at rfl rfl), rfl, fun e he => absurd he (by simp), fun _ => rfl⟩
  · intro h' tk' hn' hs
    have hx₁ : (hp.push { cls := .type "dict", data := .dict #[] }).get? x = some { cls := .ref C, data := .fields fv } := Heap.get?_push_of_some _ hx
    refine hq h' tk' hp.objs.size (fun b o hb ho => ?_) (Nat.le_refl _) hxs.symm ?_ hn'
    · exact (hs.2 b (Nat.ne_of_lt (Heap.lt_size ho))).trans ((Heap.get?_update_ne _ _ _ _ hb).trans (Heap.get?_push_of_some _ ho))
    · exact (hs.2 x hxs).trans (Heap.get?_update_self _ hx₁ rfl)
end
section
variable {M : Model} {A : Around} {E : Value → Shared → Prop} {h : Heap} {g : Array GenState} {d : Drawn} {t : Nat} {os : OsState}
variable {nm q : Str} {C N : Addr} {bs bm bmB : List Value} {hdct : Bool} {sn : List Str} {sub : List Value} {ab : Bool} {col : Option Bool} {dd : Option Addr} {k0 k1 k2 k3 k5 : Option Value} {B newId initId : String}
theorem check_new_kw (F : ExcBaseFacts B newId initId bmB) (hT : ∀ X : String, bm.contains (.type X) = bmB.contains (.type X)) {rest : List Value} {kw : List (Str × Value)} {Q : Unit → Shared → Prop}
    (hC : h.get? C = some (excClassObj nm q C N bs bm hdct sn sub ab col dd k0 k1 k2 k3 k5 newId)) (hq : Q () ⟨h, g, d, t, os⟩) : wpAny M A (checkBuiltinCall newId ⟨.ref C :: rest, kw⟩) Q E ⟨h, g, d, t, os⟩ := by
  have hcont : (Value.ref C :: bm).contains (.type B) = true := by rw [List.contains_cons, hT, F.hasB, Bool.or_true]
  have hstar := F.noStar
  simp only [checkBuiltinCall, F.newKind, F.newSplit, F.newRow]
  repeat (first | refine wpAny_loadPart_at hC ?_ | (refine wpAny_isSubtype_exc hC ?_; rw [hcont]) | refine wpAny_staticBase_exc hC ?_ | refine wpAny_madeBy_exc hC ?_ | simp only [bne_self_eq_false, Bool.false_eq_true, if_false] | wp_step)
  exact hq
theorem check_type_call_kw {rest : List Value} {kw : List (Str × Value)} {Q : Unit → Shared → Prop} (hC : h.get? C = some (excClassObj nm q C N bs bm hdct sn sub ab col dd k0 k1 k2 k3 k5 newId))
    (hq : Q () ⟨h, g, d, t, os⟩) : wpAny M A (checkBuiltinCall "type.__call__" ⟨.ref C :: rest, kw⟩) Q E ⟨h, g, d, t, os⟩ := by
  have f3 := tc_sub
  have hT : (⟨h, g, d, t, os⟩ : Shared).TypeIs (.ref C) "type" := ⟨_, hC, rfl⟩
  simp only [checkBuiltinCall, tc_kind, tc_split]
  repeat (any_goals (first | assumption | with_reducible refine wpAny_loadPart_at hC ?_ | with_reducible refine wpAny_onRaise ?_ | with_reducible refine wpAny_map ?_ | wp_step))
end
section
variable {prog : Program} {w : World} {A : Around} {E : Value → Shared → Prop} {R : Result → Shared → Prop} {h : Heap} {g : Array GenState} {d : Drawn} {t : Nat} {os : OsState}
variable {nm q : Str} {C N : Addr} {bs bm bmB : List Value} {hdct : Bool} {sn : List Str} {sub : List Value} {ab : Bool} {col : Option Bool} {dd : Option Addr} {k0 k1 k2 k3 k5 : Option Value} {B newId initId : String}
theorem new_kw (F : ExcBaseFacts B newId initId bmB) (hT : ∀ X : String, bm.contains (.type X) = bmB.contains (.type X)) {rest : List Value} {kw : List (Str × Value)}
    (hC : h.get? C = some (excClassObj nm q C N bs bm hdct sn sub ab col dd k0 k1 k2 k3 k5 newId))
    (hq : R (.ok (.ret (.ref (h.objs.size + 1)))) ⟨(h.push { cls := .type "tuple", data := .seq rest.toArray }).push
      { cls := .ref C, data := .fields #[.ref h.objs.size, .none, .none, .none, .bool false, .none] }, g, d, t, os⟩) (hrest : rest.length ≤ sizeLine) :
    codeAny (model prog w) A (.builtin newId ⟨.ref C :: rest, kw⟩) R ⟨h, g, d, t, os⟩ := by
  have hends := F.ends
  have hcB : (Value.ref C :: bm).contains (.type B) = true := by rw [List.contains_cons, hT, F.hasB, Bool.or_true]
  have hcA : (Value.ref C :: bm).contains (.type "AttributeError") = false := by rw [List.contains_cons, hT, F.noAttr]; rfl
  have hcN : (Value.ref C :: bm).contains (.type "NameError") = false := by rw [List.contains_cons, hT, F.noName]; rfl
  refine codeAny_builtinAt F.entry ?_
  unfold Builtin.«BaseException.__new__»
  refine wpAt_bind ?_
  show wpAt _ _ _ (stack >>= _) _ _ _
  refine wpAt_bind (wpAt_stack fun p below => wpAt_of_wpAny ?_)
  wp_walk
  refine wpAt_of_wpAny ?_
  rw [F.owner]
  repeat (first | with_reducible refine wpAny_madeHere_exc F.canon hC ?_ | with_reducible refine wpAny_loadPart_at hC ?_ | (with_reducible refine wpAny_isSubtype_exc hC ?_; first | rw [hcB] | rw [hcA] | rw [hcN]) | wp_step)
  show R _ _
  rw [Heap.size_push]
  exact hq
theorem type_call_kw (F : ExcBaseFacts B newId initId bmB) (hT : ∀ X : String, bm.contains (.type X) = bmB.contains (.type X)) {rest : List Value} {kw : List (Str × Value)} {fI : Addr} {Q : Fin → Shared → Prop}
    (hC : h.get? C = some (excClassObj nm q C N bs bm hdct sn sub ab col dd k0 k1 k2 k3 k5 newId))
    (hi : W.Looks (model prog w) h (typeLookup (.ref C) "__init__") (some (.ref fI))) (hb : ∀ self, W.Looks (model prog w) h (bindSpecial (.ref fI) self) (.ref fI, [self])) (hrest : rest.length ≤ sizeLine)
    (hq : codeAny (model prog w) A (.call (.ref fI) ⟨.ref (h.objs.size + 1) :: rest, kw⟩)
      (fun r s' => match r with | .ok (.ret v) => v = .none ∧ Q (.done (.ret (.ref (h.objs.size + 1)))) s' | .ok _ => False | .error e => E e s')
      ⟨(h.push (W.kdv_tup rest)).push (excO C h.objs.size), g, d, t, os⟩) :
    wpAny (model prog w) A (Builtin.«type.__call__» ⟨.ref C :: rest, kw⟩) Q E ⟨h, g, d, t, os⟩ := by
  repeat (first | with_reducible refine wpAny_loadPart_at hC ?_ | with_reducible refine wpAny_madeBy_exc hC ?_ | wp_step)
  refine codeAny_call_builtin_code (Code.quiet_builtin _ F.quiet) (check_new_kw F hT hC ?_)
  refine new_kw F hT hC ?_ hrest
  show wpAny _ _ _ _ _ _
  have k : ∀ b o, h.get? b = some o → ((h.push (W.kdv_tup rest)).push (excO C h.objs.size)).get? b = some o := fun b o e => Heap.get?_push_of_some _ (Heap.get?_push_of_some _ e)
  have hC₁ := k _ _ hC
  have hget : ((h.push (W.kdv_tup rest)).push (excO C h.objs.size)).get? (h.objs.size + 1) = some (excO C h.objs.size) := by heap_get
  have hcC : (Value.ref C :: bm).contains (.ref C) = true := by simp
  have i1 := hi.keeps k
  have b1 := (hb (.ref (h.objs.size + 1))).keeps k
  unfold isInstance
  repeat (first | with_reducible refine wpAny_loadPart_at hget ?_ | (with_reducible refine wpAny_isSubtype_exc hC₁ ?_; rw [hcC]) | wp_step)
  show wpAny _ _ (typeLookup (.ref C) _) _ _ _
  refine i1.at ?_
  refine wpAny_holding (wpAny_bind (b1.at ?_))
  refine wpAny_bind (wpAny_call (codeAny_mono hq fun r s' z => ?_))
  rcases r with e | (v | _ | _ | _) <;> first | exact z | exact z.elim | skip
  obtain ⟨rfl, z⟩ := z
  first
    | exact wpAny_pure (wpAny_pure z)
    | (wp_walk; exact z)
/-- C(.., k = v, ..) -/
theorem call_kw (F : ExcBaseFacts B newId initId bmB) (hT : ∀ X : String, bm.contains (.type X) = bmB.contains (.type X)) {rest : List Value} {kw : List (Str × Value)} {fI : Addr}
    (hC : h.get? C = some (excClassObj nm q C N bs bm hdct sn sub ab col dd k0 k1 k2 k3 k5 newId))
    (hi : W.Looks (model prog w) h (typeLookup (.ref C) "__init__") (some (.ref fI))) (hb : ∀ self, W.Looks (model prog w) h (bindSpecial (.ref fI) self) (.ref fI, [self])) (hrest : rest.length ≤ sizeLine)
    (hq : codeAny (model prog w) (A.under (.builtin "type.__call__" ⟨.ref C :: rest, kw⟩)) (.call (.ref fI) ⟨.ref (h.objs.size + 1) :: rest, kw⟩) (W.InitBack (h.objs.size + 1) R)
      ⟨(h.push (W.kdv_tup rest)).push (excO C h.objs.size), g, d, t, os⟩) :
    codeAny (model prog w) A (.call (.ref C) ⟨rest, kw⟩) R ⟨h, g, d, t, os⟩ := by
  have f1 := tc_lookup
  have f2 := tc_bind (.ref C)
  have hTy : (⟨h, g, d, t, os⟩ : Shared).TypeIs (.ref C) "type" := ⟨_, hC, rfl⟩
  refine codeAny_of_tree ?_
  show wpAny _ _ (callAny (.ref C) _) _ _ _
  repeat (any_goals (first | assumption | with_reducible refine wpAny_loadPart_at hC ?_ | wp_step))
  refine ⟨rfl, ?_⟩
  refine codeAny_call_builtin_at (Code.quiet_builtin _ (by decide +kernel)) entry_typeCall (check_type_call_kw hC (type_call_kw F hT hC hi hb hrest ?_))
  refine codeAny_mono hq fun r s' z => ?_
  rcases r with e | (v | _ | _ | _) <;> exact z
end
end OEG
end PySem

set_option Elab.async false
set_option linter.all false
set_option maxRecDepth 100000
set_option maxHeartbeats 4000000
namespace L2
open PySem PySem.Spec PyProof.Rows
structure OexG (K : PySem.W.Frag) (C : Addr) (B newId initId : String) (bmB : List Value) : Prop where
  cls : ∃ nm q N bs bm sn sub ab col dd k0 k1 k2 k3 k5, K.lookup C = some (excClassObj nm q C N bs bm true sn sub ab col dd k0 k1 k2 k3 k5 newId) ∧ PySem.W.excTail bmB bm = true
  sa : PySem.W.findIn K (.ref C) "__setattr__" = some (some (.builtin "object.__setattr__"))
  kC : PySem.W.keepIn K (.ref C) = true
  FB : ExcBaseFacts B newId initId bmB
  SB : StoreFacts B bmB "object.__setattr__" "object"
/-- an own exception class, over whatever base -/
def OexA (K : PySem.W.Frag) (C : Addr) : Prop := ∃ (B newId initId : String) (bmB : List Value), OexG K C B newId initId bmB
/-- the object of a kept exception -/
abbrev keO (C dx t : Addr) : Obj := { cls := .ref C, dict := some dx, data := .fields #[.ref t, .none, .none, .none, .bool false, .none] }
/-- a kept exception: nothing of it changes -/
def kpt (C dx t : Addr) : HO := .frz (keO C dx t) (.ext fun _ => True)
section
variable {X : Cx} {pins : List (Addr × Obj)} {σ : St} {H : Hp} {s : Shared} {a C dx : Addr} {f : Str} {y : V} {u : Value} {fs : List (Str × V)} {E : Value → Shared → Prop} {A : Around}
/-- self.f = y, the first one -/
theorem ost_newG {Q : Unit → Shared → Prop} (T : OexA X.K C) (I : Inv X pins σ H s) (e : H a = some (exo a C none)) (hno : PySem.W.findIn X.K (.ref C) f = some none) (ry : RelV y u)
    (h : ∀ dx s', H dx = none → dx ≠ a → Inv X pins σ (upd (upd H dx (exd dx [(f, y)])) a (exo a C (some dx))) s' → Q () s') : wpAny (model X.prog X.w) A (setAttr (.ref a) f u) Q E s := by
  obtain ⟨B, newId, initId, bmB, T⟩ := T
  obtain ⟨nm, q, N, bs, bm, sn, sub, ab, col, dd, k0, k1, k2, k3, k5, hC, hbm⟩ := T.cls
  have hcl : PySem.W.clsIn X.K C = some { name := nm, bases := bs, mro := .ref C :: bm, ns := N, qualname := q, hasDict := true, slotNames := sn, subclasses := sub, abstract := ab, collection := col, hasDel := false } := by unfold PySem.W.clsIn; rw [hC] <;> rfl
  obtain ⟨t1, ho⟩ := exo_at I.hok e
  obtain ⟨hp, g, d, t, os⟩ := s
  refine PySem.W.set_plain I.kIn (ox := { cls := .ref C, dict := none, data := .fields #[.ref t1, .none, .none, .none, .bool false, .none] }) (od := none) ⟨ho, rfl, rfl, trivial⟩ T.sa ?_
  refine PySem.OEG.osa_newG T.SB I.kIn ho hcl (show PySem.W.excTail bmB (.ref C :: bm) = true from hbm) rfl rfl hno (fun h' tk' dx k dn dne hx hn => ?_)
  have hnd : H dx = none := I.hok.fresh dn
  have nd : ∀ {b : Addr} {o : Obj}, hp.get? b = some o → b ≠ dx := fun {b o} q => Nat.ne_of_lt (Nat.lt_of_lt_of_le (Heap.lt_size q) dn)
  have na : ∀ {b : Addr}, H b = none → b ≠ a := fun {b} n z => by
    rw [z, e] at n
    cases n
  have Un1 : Un X.fs [] H (upd (upd H dx (exd dx [(f, y)])) a (exo a C (some dx))) hp h' := {
    keep := fun b o q n _ _ => k b o (na n) q
    slot := fun b o q n _ _ => ⟨o.slots, k b o (na n) q⟩
    free := fun b o q n _ => by rw [upd_ne (na n), upd_ne (nd q)]; exact n
    there := fun b o q _ => by
      by_cases hb : b = a
      · exact ⟨_, by rw [hb]; exact hx⟩
      · exact ⟨o, k b o hb q⟩
    tups := fun b xs q => by rw [upd_ne (at_ne e q exo_tup), upd_ne (ne_of_none q hnd)]; exact q
    frzs := fun b o v q => by rw [upd_ne (at_ne e q exo_frz), upd_ne (ne_of_none q hnd)]; exact q
    tbls := fun b ps q => ⟨#[], by rw [upd_ne (at_ne e q exo_tbl), upd_ne (ne_of_none q hnd), q]; simp⟩ }
  refine h dx _ hnd dne (I.un (t' := tk') Un1 fun b o q => ?_)
  by_cases hb : b = a
  · subst hb
    rw [upd_same] at q
    cases q
    exact exo_ok hx
  · rw [upd_ne hb] at q
    by_cases hd : b = dx
    · subst hd
      rw [upd_same] at q
      cases q
      exact exd_ok hn (relO_put (fs := []) ry fun g => True.intro)
    · rw [upd_ne hd] at q
      exact (I.hok b o q).stay (fun c v hc z => k c v (by
          rcases hc with hc | hc
          · rw [hc]
            exact hb
          · exact at_ne e hc exo_own) z)
        (fun c hc => by rw [upd_ne (at_ne e hc exo_own), upd_ne (ne_of_none hc hnd)]; exact hc) (fun c xs hc => by rw [upd_ne (at_ne e hc exo_tup), upd_ne (ne_of_none hc hnd)]; exact hc)
/-- the exception just made is kept: from now on nothing of it changes -/
theorem inv_kept (I : Inv X pins σ H s) (ea : H a = some (exo a C (some dx))) (ed : H dx = some (exd dx fs)) : ∃ t0, Inv X pins σ (upd (upd H dx (.xd fs)) a (kpt C dx t0)) s := by
  obtain ⟨t0, ho⟩ := exo_at I.hok ea
  obtain ⟨mA, hns, rel⟩ := exd_at I.hok ed
  have hda : dx ≠ a := fun z => by
    obtain ⟨o, es, ep, e1, e2, _⟩ := hns
    rw [z, ho] at e1
    have z2 := Option.some.inj e1
    subst z2
    cases e2
  obtain ⟨hp, g, d, t, os⟩ := s
  have na : ∀ {b : Addr}, H b = none → b ≠ a := fun {b} n z => by
    rw [z, ea] at n
    cases n
  have nd : ∀ {b : Addr}, H b = none → b ≠ dx := fun {b} n z => by
    rw [z, ed] at n
    cases n
  have other : ∀ {b : Addr}, b ≠ a → b ≠ dx → upd (upd H dx (.xd fs)) a (kpt C dx t0) b = H b := fun {b} h1 h2 => by rw [upd_ne h1, upd_ne h2]
  have exd_frz : ∀ {o : Obj} {u : HO}, exd dx fs ≠ .frz o u := fun {o u} z => by
    have z' : HO.ext _ = HO.frz o u := z
    cases z'
  have exd_tbl : ∀ {ps : Array Value}, exd dx fs ≠ .tbl ps := fun {ps} z => by
    have z' : HO.ext _ = HO.tbl ps := z
    cases z'
  refine ⟨t0, I.un (t' := t) (h' := hp) {
    keep := fun b o q _ _ _ => q
    slot := fun b o q _ _ _ => ⟨o.slots, q⟩
    free := fun b o q n _ => by rw [other (na n) (nd n)]; exact n
    there := fun b o q _ => ⟨o, q⟩
    tups := fun b xs q => by rw [other (at_ne ea q exo_tup) (at_ne ed q exd_tup)]; exact q
    frzs := fun b o v q => by rw [other (at_ne ea q exo_frz) (at_ne ed q exd_frz)]; exact q
    tbls := fun b ps q => ⟨#[], by rw [other (at_ne ea q exo_tbl) (at_ne ed q exd_tbl), q]; simp⟩ } fun b o q => ?_⟩
  by_cases hb : b = a
  · subst hb
    rw [upd_same] at q
    cases q
    exact ⟨ho, True.intro, ⟨_, ho⟩, fun _ _ _ _ => True.intro⟩
  · rw [upd_ne hb] at q
    by_cases hd : b = dx
    · subst hd
      rw [upd_same] at q
      cases q
      exact ⟨mA, hns, rel⟩
    · rw [upd_ne hd] at q
      exact (I.hok b o q).stay (fun c v _ z => z) (fun c hc => by rw [other (at_ne ea hc exo_own) (at_ne ed hc exd_own)]; exact hc) (fun c xs hc => by rw [other (at_ne ea hc exo_tup) (at_ne ed hc exd_tup)]; exact hc)
end
/-- self.f = e, the first one -/
def tOstG (K : PySem.W.Frag) (f : Str) (to te : TE) : TS := fun D σ H => te σ H fun y H1 => to σ H1 fun x H2 => ∃ a C : Addr, x = .ref a ∧ OexA K C ∧ PySem.W.findIn K (.ref C) f = some none ∧
  H2 a = some (exo a C none) ∧ ∀ dx, H2 dx = none → dx ≠ a → D.nx σ (upd (upd H2 dx (exd dx [(f, y)])) a (exo a C (some dx)))
theorem ps_ostG {X : Cx} {o e : Expr} {to te : TE} {f : Str} {p' pos : Pos} (ho : PE X o to) (he : PE X e te) (hs : swapsWith e (some (.Attribute o f p')) pos.line X.env = pure false := by rfl) : PS X (.Assign [.Attribute o f p'] e pos) (tOstG X.K f to te) := by
  refine ⟨fun pins s σ H D I h => ?_⟩
  refine plainObj_wpAny_Assign_Attribute (thn (he.run pins s σ H _ I h) fun v s1 ⟨y, H1, I1, r1, q1⟩ => thn (ho.run pins s1 σ H1 _ I1 q1) fun u s2 ⟨x, H2, I2, r2, a, C, ex, T, hno, ea, q⟩ => ?_) hs
  subst ex
  obtain rfl : u = Value.ref a := r2
  exact ost_newG T I2 ea hno r1 fun dx s' n ne J => ⟨σ, _, J, q dx n ne⟩
def spXG (K : PySem.W.Frag) (f : Str) : Sp := fun vs H Q _ => ∃ (a C : Addr) (v : V), vs = [.ref a, v] ∧ OexA K C ∧ PySem.W.findIn K (.ref C) f = some none ∧ H a = some (exo a C none) ∧
  ∀ dx, H dx = none → dx ≠ a → Q .non (upd (upd H dx (exd dx [(f, v)])) a (exo a C (some dx)))
theorem xiG_ok {P : Program} {w : World} {K : PySem.W.Frag} {mg : Str → Option Value} {base : Heap} {x qual : Str} {params : Arguments} {scope : Scope} {fI : Addr} {fd : FuncData} {k : Nat} {s v f : Str} {p1 p2 p3 pos : Pos} {dvs : List V} {kws : List (Str × V)}
    (F : FunD K x qual params [.Assign [.Attribute (.Name s p1) f p2] (.Name v p3) pos] scope dvs kws fI fd) (S : FnScope [s, v] [s, v] scope) (hs : Vis scope s) (hv : Vis scope v)
    (d1 : (s == ("__debug__" : Str)) = false := by decide) (d2 : (s == ("__classdict__" : Str)) = false := by decide) (d3 : (v == ("__debug__" : Str)) = false := by decide) (d4 : (v == ("__classdict__" : Str)) = false := by decide) :
    FnOk P w K mg base (L2.CX P w) (k + 1) fI fd [s, v] (spXG K f) := by
  refine F.ok S (fun vs H Q E ⟨a, C, u, e, _⟩ => by rw [e]; rfl) fun cdv A outer st H vs Q E hr ⟨a, C, u, e, T, hn, ha, q⟩ => ?_
  subst e
  refine ⟨_, pss_one (ps_ostG (pe_var (i := 0) rfl hs d1 d2) (pe_var (i := 1) rfl hv d3 d4)), u, rfl, .ref a, rfl, a, C, rfl, T, hn, ha, fun dx n1 n2 => q dx n1 n2⟩
section
variable {X : Cx} {CX : CXT} {x : Str} {C fI : Addr} {k : Nat} {fd : FuncData} {ps ks : List Str} {sp : Sp} {ds : List Value} {dvs : List V} {e : Expr} {es : List Expr} {kws : List Keyword} {ta tk : TA} {p pos : Pos}
/-- what C's own __init__ leaves, and the exception kept -/
abbrev kQ (C a : Addr) (Q : VK) : VK := fun v H2 => v = .non ∧ ∃ (d : Addr) (fs : List (Str × V)), H2 a = some (exo a C (some d)) ∧ H2 d = some (exd d fs) ∧ ∀ t0, Q (.ref a) (upd (upd H2 d (.xd fs)) a (kpt C d t0))
theorem run_mkG {pins : List (Addr × Obj)} {σ : St} {H : Hp} {s : Shared} {us : List Value} {kw : List (Str × Value)} {Q : VK} (bl : Addr → List Value) (bv : Addr → List V) (T : OexA X.K C)
    (iC : PySem.W.findIn X.K (.ref C) "__init__" = some (some (.ref fI))) (tI : PySem.W.typeIn X.K (.ref fI) = some (.type "function"))
    (F1 : FnOk X.prog X.w X.K X.mg X.base CX k fI fd ps sp) (hr : Room (k + 1) X.A) (hx : Passes CX X (fun _ _ _ => False)) (I : Inv X pins σ H s) (hz : us.length ≤ 1000)
    (hb : ∀ a s', X.K.In s'.heap → BindsTo s' fd ⟨.ref a :: us, kw⟩ (ps.zip (bl a))) (rb : ∀ a, Vals (bv a) (bl a))
    (h : ∀ a, H a = none → sp (bv a) (upd H a (exo a C none)) (kQ C a Q) (fun _ _ _ => False)) :
    wpAny (model X.prog X.w) X.A (call (.ref C) us kw) (EP X pins σ Q) X.xe s := by
  obtain ⟨B, newId, initId, bmB, T⟩ := T
  obtain ⟨nm, q, N, bs, bm, sn, sub, ab, col, dd, k0, k1, k2, k3, k5, hC, hbm⟩ := T.cls
  obtain ⟨hp, g, dr, tk, os⟩ := s
  have hsz : hp.objs.size ≤ hp.objs.size + 1 := Nat.le_succ _
  have hn : H (hp.objs.size + 1) = none := I.hok.fresh hsz
  have hq := h (hp.objs.size + 1) hn
  have kk : ∀ b o, hp.get? b = some o → ((hp.push (PySem.W.kdv_tup us)).push (PySem.HandSPX.excO C hp.objs.size)).get? b = some o := fun b o e => Heap.get?_push_of_some _ (Heap.get?_push_of_some _ e)
  have hget : ((hp.push (PySem.W.kdv_tup us)).push (PySem.HandSPX.excO C hp.objs.size)).get? (hp.objs.size + 1) = some (PySem.HandSPX.excO C hp.objs.size) := by heap_get
  have I2 : Inv X pins σ (upd H (hp.objs.size + 1) (exo (hp.objs.size + 1) C none)) ⟨(hp.push (PySem.W.kdv_tup us)).push (PySem.HandSPX.excO C hp.objs.size), g, dr, tk, os⟩ :=
    I.laid (t' := tk) (a := hp.objs.size + 1) (o := exo (hp.objs.size + 1) C none) (h' := (hp.push (PySem.W.kdv_tup us)).push (PySem.HandSPX.excO C hp.objs.size)) kk hsz (exo_ok hget)
  have hus : us.length ≤ sizeLine := by
    rw [sizeLine_eq]
    omega
  refine wpAny_call (PySem.OEG.call_kw T.FB (fun Y => PySem.W.excTail_contains Y bm hbm) (I.kIn _ _ hC) (PySem.W.looks_findIn I.kIn iC) (fun self => PySem.W.bind_fn I.kIn self tI) hus
    (codeAny_mono (F1.run _ X.stack _ _ ⟨Value.ref (hp.objs.size + 1) :: us, kw⟩ (bl (hp.objs.size + 1)) _ _ (fun _ _ _ => False) (hr.make C us kw) (I2.env0.make C us kw) (hb _ _ I2.kIn) (rb _) hq) fun r s' hq' => ?_))
  cases r with
  | error er => exact hx pins σ _ _ er s' I2 hq'
  | ok fl =>
    cases fl with
    | ret u =>
      obtain ⟨v, H2, I3, rv, ev, d, fs, ea, ed, q2⟩ := I2.after hq'
      subst ev
      obtain ⟨t0, J⟩ := inv_kept I3 ea ed
      exact ⟨rv, ⟨V.ref (hp.objs.size + 1), _, J, rfl, q2 t0⟩⟩
    | next => exact False.elim hq'
    | brk => exact False.elim hq'
    | cont => exact False.elim hq'
/-- C(e, ..), the exception kept -/
def tMkG (C : Addr) (sp : Sp) (dvs : List V) (ta : TA) : TE := fun σ H Q => ta σ H fun vs H1 => vs.length ≤ 1000 ∧ ∀ a, H1 a = none → sp (.ref a :: (vs ++ dvs)) (upd H1 a (exo a C none)) (kQ C a Q) (fun _ _ _ => False)
theorem pe_mkG (T : OexA X.K C) (iC : PySem.W.findIn X.K (.ref C) "__init__" = some (some (.ref fI))) (tI : PySem.W.typeIn X.K (.ref fI) = some (.type "function"))
    (F1 : FnOk X.prog X.w X.K X.mg X.base CX k fI fd ps sp) (hr : Room (k + 1) X.A) (hb : Binds X.K fd ps ds) (hd : Vals dvs ds) (hx : Passes CX X (fun _ _ _ => False)) (hg : Gl X x) (hm : X.mg x = some (.ref C)) (ha : PA X (e :: es) ta)
    (hdb : (x == ("__debug__" : Str)) = false := by decide) (he : starEach (e :: es) X.env = (false, eval e X.env) :: starEach es X.env := by rfl) (hpl : (backTo pos (starEach es X.env)).any (·.1) = false := by rfl) :
    PE X (.Call (.Name x p) (e :: es) [] pos) (tMkG C sp dvs ta) := by
  refine ⟨fun pins s σ H Q I h => ?_⟩
  obtain ⟨B, newId, initId, bmB, T1⟩ := id T
  refine wpAny_Call_Name_kw (ld_glob I hg hm ?_ hdb)
  refine PySem.W.callWith_K (h₀ := X.base) I.ok.mod.kin T1.kC (thn (ha.run pos pins s σ H _ I h) fun us s1 ⟨vs, H1, I1, r1, hz, q1⟩ => ⟨I1.kIn, ?_⟩) he hpl
  have r2 : ∀ a, Vals (V.ref a :: (vs ++ dvs)) (Value.ref a :: (us ++ ds)) := fun a => .cons rfl (r1.append hd)
  have hl : ∀ a, H1 a = none → (Value.ref a :: us ++ ds).length = ps.length := fun a na => by
    have e := (r2 a).length
    rw [F1.len _ _ _ _ (q1 a na)] at e
    exact e.symm
  have hn := I1.hok.fresh (Nat.le_refl s1.heap.objs.size)
  have hl0 := hl _ hn
  show wpAny _ _ (call (.ref C) us) _ _ _
  exact run_mkG (fun a => Value.ref a :: (us ++ ds)) (fun a => V.ref a :: (vs ++ dvs)) T iC tI F1 hr hx I1 (by rw [← Paired.length r1]; exact hz) (fun a s' hk => hb s' (Value.ref a :: us) hk (by simpa using hl0)) r2 q1
/-- C(k = v, ..), the exception kept -/
def tMkGk (C : Addr) (m : Nat) (sp : Sp) (gV : List V → List V → List V) (tk : TA) : TE := fun σ H Q => tk σ H fun zs H1 => zs.length = m ∧ ∀ a, H1 a = none → sp (gV [.ref a] zs) (upd H1 a (exo a C none)) (kQ C a Q) (fun _ _ _ => False)
theorem pe_mkGk {g : List Value → List Value → List Value} {gV : List V → List V → List V} (T : OexA X.K C) (iC : PySem.W.findIn X.K (.ref C) "__init__" = some (some (.ref fI))) (tI : PySem.W.typeIn X.K (.ref fI) = some (.type "function"))
    (F1 : FnOk X.prog X.w X.K X.mg X.base CX k fI fd ps sp) (hr : Room (k + 1) X.A) (hg : Gl X x) (hm : X.mg x = some (.ref C)) (hb : KBn X.K fd ps 1 ks g gV) (hx : Passes CX X (fun _ _ _ => False)) (hkw : PK X kws tk)
    (hall : (backToKw pos (keywordEach kws X.env)).all (·.1.isSome) = true := by rfl) (hks : (backToKw pos (keywordEach kws X.env)).filterMap (·.1) = ks := by rfl) (hdb : (x == ("__debug__" : Str)) = false := by decide)
    (hpl : ((backTo pos (starEach [] X.env)).any (·.1) || (backToKw pos (keywordEach kws X.env)).any (·.1.isNone)) = false := by rfl) :
    PE X (.Call (.Name x p) [] kws pos) (tMkGk C ks.length sp gV tk) := by
  refine ⟨fun pins s σ H Q I h => ?_⟩
  obtain ⟨B, newId, initId, bmB, T1⟩ := id T
  refine wpAny_Call_Name_kw (ld_glob I hg hm ?_ hdb)
  refine PySem.W.callWith_KW0 (h₀ := X.base) I.ok.mod.kin T1.kC hall ?_ hpl
  refine thn (hkw.run pos pins s σ H _ I h) fun ws s2 ⟨zs, H2, I2, rz, l2, q2⟩ => ⟨I2.kIn, ?_⟩
  rw [hks]
  exact run_mkG (us := []) (fun a => g [Value.ref a] ws) (fun a => gV [V.ref a] zs) T iC tI F1 hr hx I2 (by simp) (fun a s' hk => hb.to s' [Value.ref a] ws hk rfl (rz.length.symm.trans l2)) (fun a => hb.rel (.cons rfl .nil) rz) q2
end
/-- e.f of a kept exception -/
def tXk (K : PySem.W.Frag) (f : Str) (te : TE) : TE := fun σ H Q => te σ H fun x H1 => ∃ (a C d t0 : Addr) (fs : List (Str × V)) (v : V), x = .ref a ∧ XfC K C ∧ PySem.W.findIn K (.ref C) f = some none ∧ H1 a = some (kpt C d t0) ∧ H1 d = some (.xd fs) ∧ fs.lookup f = some v ∧ Q v H1
theorem pe_xk {X : Cx} {e : Expr} {te : TE} {pos : Pos} {n : Str} (he : PE X e te) (hb : attributeBase e n X.env (eval e X.env) = eval e X.env := by rfl) : PE X (.Attribute e n pos) (tXk X.K n te) := by
  refine ⟨fun pins s σ H Q I h => ?_⟩
  refine attr_of hb (thn (he.run pins s σ H _ I h) fun u s1 hh => ?_)
  obtain ⟨x, H1, I1, rx, a, C, d, t0, fs, v, ex, T, hno, ea, ed, l, q⟩ := hh
  subst ex
  obtain rfl : u = Value.ref a := rx
  have hx : ObjOk X.prog X.w H1 s1.heap d (.xd fs) := I1.hok d _ ed
  have ha : ObjOk X.prog X.w H1 s1.heap a (.frz (keO C d t0) (.ext fun _ => True)) := I1.hok a _ ea
  obtain ⟨mA, hns, hr⟩ := hx
  obtain ⟨od, ho, hl⟩ := lookIn_ns hns
  obtain ⟨u, hu, ru⟩ := RelO.some_of (v := v) (o := mA n) (by rw [← l]; exact hr n)
  have J : PySem.W.InstAt s1.heap a (keO C d t0) C (some od) := ⟨ha.1, rfl, rfl, ho⟩
  exact HandSPX.exc_get I1.kIn J T.ga T.gg T.exC (PySem.W.findObj_own T.hdC hno rfl (by rw [hl, hu])) (handed_of ru) ⟨v, H1, I1.tok _, ru, q⟩

end L2
namespace PySem.W
open PySem PySem.Spec PySem.Calls PyProof.Rows
section
variable {prog : Program} {w : World} {A : Around} {E : Value → Shared → Prop} {s : Shared} {K : Frag} {x D : Addr} {ox : Obj} {oo : Obj}
theorem kin_classG {Q : Option Value → Shared → Prop} (hga : findIn K (.ref D) "__getattribute__" = some (some (.builtin "BaseException.__getattribute__"))) (hgt : findIn K (.ref D) "__getattr__" = some none) (hsub : subIn K (.ref D) (.type "BaseException") = some true)
    (hdct : hasDictIn K D = true) (ha : findIn K (.ref D) "__class__" = some (some (.builtin "object.__class__")))
    (hn : specialIn K (.builtin "object.__class__") "__get__" = some (some (.builtin "getset_descriptor.__get__"))) (htk : takesIn K (.builtin "object.__class__") = some true) (hm : mroIn K D (.type "object") = some true)
    (X : K.In s.heap) (I : InstAt s.heap x ox D (some oo)) (h : Q (some (.ref D)) { s with toks := s.toks + 1 }) : wpAny (model prog w) A (getAttr? (.ref x) "__class__") Q E s := by
  have hf : findObj K D (some oo) "__class__" = some (.bind (.builtin "getset_descriptor.__get__") (.builtin "object.__class__")) := findObj_data (by obtain ⟨cd, hc, _⟩ := any_some hdct; rw [hc]; rfl) ha hn htk
  obtain ⟨hp, g, d, t, os⟩ := s
  have L0 := I.type (M := model prog w)
  have L1 := looks_findIn (M := model prog w) X hga
  have L2 := looks_findIn (M := model prog w) X hgt
  have L3 := looks_find (M := model prog w) X I hf
  have sub : Looks (model prog w) hp (isInstance (.ref x) (.type "BaseException")) true := L0.andThen (looks_subIn X hsub)
  have hx0 : (false && onTheHeap (Value.builtin "BaseException.__getattribute__")) = false := rfl
  have hx2 : (Value.builtin "BaseException.__getattribute__" == Value.builtin "object.__getattribute__") = false := by decide +kernel
  have hx1 : (onTheHeap (Value.ref D) && Value.builtin "BaseException.__getattribute__" == Value.builtin "object.__getattribute__") = false := by rw [hx2]; rfl
  unfold getAttr? getAttrBy? getAttrBy
  refine wpAny_bind (wpAny_mkText (wpAny_bind (wpAny_attempt (wpAny_holding (wpAny_bind (L0.at (wpAny_bind (L1.at ?_))))))))
  show wpAny _ _ (if (onTheHeap (Value.ref D) && Value.builtin "BaseException.__getattribute__" == Value.builtin "object.__getattribute__") = true then _ else _) _ _ _
  rw [hx1, if_neg Bool.false_ne_true]
  unfold getAttrByItsOwn hookBefore
  refine wpAny_bind ?_
  rw [if_pos (show onTheHeap (Value.ref D) = true from rfl)]
  refine L2.at ?_
  refine wpAny_bind (wpAny_attempt (wpAny_holding ?_))
  unfold callGetattribute
  rw [hx0, if_neg Bool.false_ne_true]
  unfold boundAndCalled
  rw [PySem.F.excAttr_ValueError.ga.bind (.ref x)]
  refine wpAny_bind (wpAny_pure ?_)
  show wpAny _ _ (call (.builtin "BaseException.__getattribute__") [.ref x, .str "__class__" t]) _ _ _
  refine wpAny_call (codeAny_call_builtin PySem.F.excAttr_ValueError.ga.plain PySem.F.entry_bexc_ga ?_)
  refine @check_slot (model prog w) _ _ ⟨hp, g, d, t + 1, os⟩ "BaseException.__getattribute__" "BaseException" "__getattribute__" (.ref x) [.str "__class__" t] [] _ (by decide +kernel) (by decide +kernel) sub (PySem.F.args_bexc_ga (.ref x) (.str "__class__" t)) ?_
  unfold Builtin.«object.__getattribute__»
  refine wpAny_bind (wpAny_of_eq (a := ((Value.ref x : Value), [Value.str "__class__" t])) (by first | rfl | (simp only [slotArgs]; rfl)) ?_)
  refine wpAny_bind (wpAny_pure (wpAny_bind (L0.at (wpAny_bind (L3.at ?_)))))
  show wpAny _ _ (holding [Value.builtin "object.__class__"] (call (.builtin "getset_descriptor.__get__") [.builtin "object.__class__", .ref x, .ref D]) >>= ret) _ _ _
  refine wpAny_bind (wpAny_holding (wpAny_call (class_get (s := ⟨hp, g, d, t + 1, os⟩) (ox := ox) (od := some oo) X I hm ?_)))
  refine wpAny_pure ?_
  show wpAny _ _ (handedOut (.ref D)) _ _ _
  rw [handedOut_of (v := .ref D) rfl]
  first
    | exact wpAny_pure (wpAny_pure h)
    | exact wpAny_pure h
    | exact wpAny_pure (wpAny_bind (wpAny_pure (wpAny_pure h)))
theorem kitx_kept (hga : findIn K (.ref D) "__getattribute__" = some (some (.builtin "BaseException.__getattribute__"))) (hgt : findIn K (.ref D) "__getattr__" = some none) (hsub : subIn K (.ref D) (.type "BaseException") = some true) (hdct : hasDictIn K D = true) (ha : findIn K (.ref D) "__class__" = some (some (.builtin "object.__class__")))
    (hn : specialIn K (.builtin "object.__class__") "__get__" = some (some (.builtin "getset_descriptor.__get__"))) (htk : takesIn K (.builtin "object.__class__") = some true) (hm : mroIn K D (.type "object") = some true) :
    KitX K (.ref x) (.ref D) (fun h => InstAt h x ox D (some oo)) where
  ty := fun _ _ _ I => I.type
  it := fun _ _ X _ => by
    obtain ⟨cdD, hcD, _⟩ := any_some hdct
    unfold clsIn at hcD
    split at hcD
    · rename_i c' d' cd' sl' ho
      intro A' Q' E' s' k q
      unfold isType loadHead
      exact wpAny_bind (wpAny_loadPart (k _ _ (X _ _ ho)) (wpAny_pure q))
    · cases hcD
  ne := fun h tp dd its n sl X htp => by
    obtain ⟨cdD, hcD, _⟩ := any_some hdct
    refine Bool.eq_false_iff.mpr fun q => ?_
    have e : D = tp := Value.ref.inj (beq_iff_eq.mp q)
    subst e
    unfold clsIn at hcD
    split at hcD
    · rename_i c' d' cd' sl' ho
      have z := (X _ _ ho).symm.trans htp
      cases z
    · cases hcD
  ca := fun X I k => kin_classG hga hgt hsub hdct ha hn htk hm X I k
end
end PySem.W
namespace L2
open PySem PySem.Spec PyProof.Rows
/-- isinstance(e, c), e a kept exception -/
def rIsK (K : PySem.W.Frag) : List V → Hp → VK → Prop := fun xs H Q => ∃ (a D d t0 : Addr) (fs : List (Str × V)) (c : V) (cv : Value) (b : Bool), xs = [.ref a, c] ∧ ExcC K D ∧ H a = some (kpt D d t0) ∧ H d = some (.xd fs) ∧ (∀ u, RelV c u → u = cv) ∧ PySem.W.kitOne K (.ref D) cv = some b ∧ Q (.bl b) H
theorem call_isK {X : Cx} : CallR X (.builtin "isinstance") (rIsK X.K) := by
  intro pins s σ H xs us Q I r h
  obtain ⟨a, D, d, t0, fs, c, cv, b, rfl, C, ea, ed, hcv, e, q⟩ := h
  cases r with
  | cons rx rr =>
    cases rr with
    | cons rt rr =>
      cases rr
      cases rx
      have ec := hcv _ rt
      subst ec
      have hx : ObjOk X.prog X.w H s.heap d (.xd fs) := I.hok d _ ed
      have ha : ObjOk X.prog X.w H s.heap a (.frz (keO D d t0) (.ext fun _ => True)) := I.hok a _ ea
      obtain ⟨mA, hns, hr⟩ := hx
      obtain ⟨od, ho, hl⟩ := lookIn_ns hns
      have J : PySem.W.InstAt s.heap a (keO D d t0) D (some od) := ⟨ha.1, rfl, rfl, ho⟩
      exact PySem.W.kia_one (PySem.W.kitx_kept C.hg C.hk C.hs C.hd C.ha C.hn C.ht C.hm) I.kIn J e (fun z => nomatch z) fun tk => ⟨.bl b, H, I.kept (t' := tk) fun _ _ z => z, rfl, q⟩
end L2

set_option Elab.async false
set_option linter.all false
set_option maxRecDepth 100000
set_option maxHeartbeats 4000000
namespace L2.Mi
open PySem

inductive D where
  | non | bl (b : Bool) | int (i : Int) | str (x : List Nat) | tup (xs : List D) | ref (a : Nat) | ty (n : String)
  /-- a list, a dict that nobody changes; a tuple of the written part -/
  | lv (xs : List D) | dv (t : Bool) (kvs : List (D × D)) | kt (xs : List D)
  /-- a class of the program -/
  | cl (c : Nat)
  /-- a list that stood there before: the script, a table of the top -/
  | fl (xs : List D)
  /-- a def of the program -/
  | fn (i : Nat)
  /-- a kept exception: its class, its fields' numbers, their values -/
  | ex (c : Nat) (ns : List Nat) (ds : List D)
  /-- a class of exceptions -/
  | cx (c : Nat)

inductive Ob where
  | lst (xs : List D)
  | dic (t : Bool) (kvs : List (D × D))
  | ins (c : Nat) (fs : List (Nat × D))
  | lck (o : Ob)

structure Store where
  objs : List Ob
namespace Store
def size (S : Store) : Nat := S.objs.length
def get (S : Store) (i : Nat) : Option Ob := S.objs[i]?
def set (S : Store) (i : Nat) (o : Ob) : Store := ⟨S.objs.set i o⟩
def push (S : Store) (o : Ob) : Store := ⟨S.objs ++ [o]⟩
theorem size_set (S : Store) (i : Nat) (o : Ob) : (S.set i o).size = S.size := by simp [size, set]
theorem size_push (S : Store) (o : Ob) : (S.push o).size = S.size + 1 := by simp [size, push]
theorem get_lt {S : Store} {i : Nat} {o : Ob} (h : S.get i = some o) : i < S.size := (List.getElem?_eq_some_iff.mp h).1
theorem get_none {S : Store} {i : Nat} (h : S.size ≤ i) : S.get i = none := by
  unfold get size at *
  exact List.getElem?_eq_none_iff.mpr h
theorem get_set_same {S : Store} {i : Nat} {o : Ob} (h : i < S.size) : (S.set i o).get i = some o := by
  unfold get set size at *
  simp [h]
theorem get_set_ne {S : Store} {i j : Nat} {o : Ob} (h : i ≠ j) : (S.set i o).get j = S.get j := by
  unfold get set
  simp [List.getElem?_set_ne h]
theorem get_push_same {S : Store} {o : Ob} : (S.push o).get S.size = some o := by
  unfold get push size
  simp
theorem get_push_lt {S : Store} {i : Nat} {o : Ob} (h : i < S.size) : (S.push o).get i = S.get i := by
  unfold get push size at *
  simp [List.getElem?_append_left h]
theorem get_push_some {S : Store} {i : Nat} {o u : Ob} (h : S.get i = some u) : (S.push o).get i = some u := by
  rw [get_push_lt (get_lt h)]; exact h
theorem get_push_ne {S : Store} {i : Nat} {o : Ob} (h : i ≠ S.size) : (S.push o).get i = S.get i := by
  by_cases hl : i < S.size
  · exact get_push_lt hl
  · rw [get_none (S := S) (by omega), get_none (by rw [size_push]; omega)]
end Store

/-- an exception in flight: its class, its fields -/
structure Xn where
  c : Nat
  fs : List (Nat × D)

inductive Res (α : Type) where
  | ok (a : α) (S : Store)
  | exc (x : Xn) (S : Store)
  | bad
abbrev En := List (Option D)
inductive RS where
  | nx (σ : En) (S : Store)
  | rt (d : D) (S : Store)
  | bk (σ : En) (S : Store)
  | ct (σ : En) (S : Store)
  | exc (x : Xn) (σ : En) (S : Store)
  | bad
def Res.bind {α β : Type} (r : Res α) (f : α → Store → Res β) : Res β :=
  match r with
  | .ok a S => f a S
  | .exc x S => .exc x S
  | .bad => .bad
theorem Res.bind_ok {α β : Type} {a : α} {S : Store} {f : α → Store → Res β} : (Res.ok a S).bind f = f a S := rfl
abbrev ME := En → Store → Res D
abbrev MA := En → Store → Res (List D)
abbrev MT := En → Store → Res Bool
abbrev MS := En → Store → RS

/-- what a class of the program must have -/
structure CI (K : PySem.W.Frag) (C : Addr) : Prop where
  cl : Cls K C
  ha : PySem.W.findIn K (.ref C) "__class__" = some (some (.builtin "object.__class__"))
  hn : PySem.W.specialIn K (.builtin "object.__class__") "__get__" = some (some (.builtin "getset_descriptor.__get__"))
  htk : PySem.W.takesIn K (.builtin "object.__class__") = some true
  hm : PySem.W.mroIn K C (.type "object") = some true
/-- a type: a built-in one, a class of the program -/
inductive Tag where
  | b (n : String) | o (c : Nat)
  deriving DecidableEq
def tagVal (cls : Nat → Option Addr) : Tag → Option Value
  | .b n => some (.type n)
  | .o c => (cls c).map Value.ref
/-- the program's tables: the written part, the classes by number, the fields' names by number, what isinstance says, the exceptions' classes -/
structure Gx where
  K : PySem.W.Frag
  cls : Nat → Option Addr
  fld : Nat → Str
  inj : ∀ i j, fld i = fld j → i = j
  clsv : Nat → Option Value
  ci : ∀ c C, cls c = some C → CI K C
  isi : Tag → Tag → Option Bool
  isi_ok : ∀ t u b tv uv, isi t u = some b → tagVal cls t = some tv → tagVal cls u = some uv → PySem.W.kitOne K tv uv = some b
  /-- the tables of code objects that grow, and the name that their code objects bear -/
  tabs : List (Addr × Str)
  /-- the defs by number -/
  fns : Nat → Option Addr

def keyD : D → Option Key
  | .int i => some (.inl i)
  | .str x => some (.inr ⟨x.toArray⟩)
  | _ => none
def keysD : List D → Option (List Key)
  | [] => some []
  | d :: ds => match keyD d, keysD ds with
    | some k, some ks => some (k :: ks)
    | _, _ => none
def keyT : D → Option (List Key)
  | .tup ds => keysD ds
  | _ => none

/-- where the store's things stand, and what is hidden (a comprehension's list while it grows) -/
structure Wd where
  v : List Addr
  h : List Addr
def Wd.no (ρ : Wd) (a : Addr) : Prop := a ∉ ρ.v ∧ a ∉ ρ.h
def Wd.push (ρ : Wd) (a : Addr) : Wd := ⟨ρ.v ++ [a], ρ.h⟩

/-- a list that nothing changes -/
def FlAt (K : PySem.W.Frag) (H : Hp) (a : Addr) (xs : List V) : Prop := (∃ o, H a = some (.frz o (.lst xs))) ∨ SqL K (fun _ => none) a xs
section
variable (G : Gx) (ρ : Wd) (H : Hp)
mutual
inductive RV : D → V → Prop
  | non : RV .non .non
  | bl (b : Bool) : RV (.bl b) (.bl b)
  | int (i : Int) : RV (.int i) (.int i)
  | str (x : List Nat) : RV (.str x) (.str ⟨x.toArray⟩)
  | ty (n : String) : RV (.ty n) (.ty n)
  | cl {c : Nat} {C : Addr} : G.cls c = some C → RV (.cl c) (.ref C)
  | ref {i : Nat} {a : Addr} : ρ.v[i]? = some a → RV (.ref i) (.ref a)
  | fn {i : Nat} {a : Addr} : G.fns i = some a → RV (.fn i) (.ref a)
  | tup {ds : List D} {a : Addr} {xs : List V} : H a = some (.tup xs) → RVs ds xs → RV (.tup ds) (.ref a)
  | kt {ds : List D} {a : Addr} {xs : List V} : SqT G.K (fun _ => none) a xs → RVs ds xs → RV (.kt ds) (.ref a)
  | lv {ds : List D} {a : Addr} {xs : List V} : ρ.no a → H a = some (.lst xs) → RVs ds xs → RV (.lv ds) (.ref a)
  | fl {ds : List D} {a : Addr} {xs : List V} : FlAt G.K H a xs → RVs ds xs → RV (.fl ds) (.ref a)
  | cx {c : Nat} {C : Addr} : G.clsv c = some (.ref C) → RV (.cx c) (.ref C)
  | ex {c : Nat} {C a dx t0 : Addr} {ns : List Nat} {ds : List D} {xs : List V} : G.clsv c = some (.ref C) → H a = some (kpt C dx t0) → H dx = some (.xd ((ns.map G.fld).zip xs)) → RVs ds xs → RV (.ex c ns ds) (.ref a)
  | dvK {kvs : List (D × D)} {a : Addr} {kus : List (Key × V)} : ρ.no a → Rd H a (.dK kus) → RKs kvs kus → RV (.dv false kvs) (.ref a)
  | dvT {kvs : List (D × D)} {a : Addr} {kus : List (List Key × V)} : ρ.no a → Rd H a (.dT kus) → RTs kvs kus → RV (.dv true kvs) (.ref a)
inductive RVs : List D → List V → Prop
  | nil : RVs [] []
  | cons {d : D} {ds : List D} {v : V} {vs : List V} : RV d v → RVs ds vs → RVs (d :: ds) (v :: vs)
inductive RKs : List (D × D) → List (Key × V) → Prop
  | nil : RKs [] []
  | cons {d e : D} {k : Key} {v : V} {kvs : List (D × D)} {kus : List (Key × V)} : keyD d = some k → RV e v → RKs kvs kus → RKs ((d, e) :: kvs) ((k, v) :: kus)
inductive RTs : List (D × D) → List (List Key × V) → Prop
  | nil : RTs [] []
  | cons {d e : D} {k : List Key} {v : V} {kvs : List (D × D)} {kus : List (List Key × V)} : keyT d = some k → RV e v → RTs kvs kus → RTs ((d, e) :: kvs) ((k, v) :: kus)
end
end

def IsT : HO → Prop
  | .tup _ => True
  | .frz _ (.lst _) => True
  | .frz _ (.ext _) => True
  | .xd _ => True
  | _ => False
/-- tuples stay, frozen lists too -/
def TK (G : Gx) (H H' : Hp) : Prop := ∀ a u, IsT u → H a = some u → H' a = some u
theorem FlAt.move {G : Gx} {H H' : Hp} {a : Addr} {xs : List V} (t : TK G H H') (h : FlAt G.K H a xs) : FlAt G.K H' a xs := h.elim (fun ⟨o, h⟩ => .inl ⟨o, t a _ trivial h⟩) .inr
theorem FlAt.sq {K : PySem.W.Frag} {H : Hp} {a : Addr} {xs : List V} (h : FlAt K H a xs) : SqL K H a xs := by
  rcases h with ⟨o, h⟩ | (h | ⟨o, h⟩) | h
  · exact .inl (.inr ⟨o, h⟩)
  · cases h
  · cases h
  · exact .inr h
/-- no table of code objects -/
def NTb : HO → Prop
  | .tbl _ => False
  | _ => True
/-- something stands there, and no table -/
def SmO : Option HO → Prop
  | some u => NTb u
  | none => False
theorem SmO.ne {o : Option HO} (h : SmO o) : o ≠ none := by
  rintro rfl
  exact h
/-- a table of code objects, a code object -/
def IsE : HO → Prop
  | .tbl _ => True
  | .ext _ => True
  | _ => False
theorem tabs_move {T : List (Addr × Str)} {H H' : Hp} (t : LamX.Tabs T H) (k : ∀ a u, IsE u → H a = some u → H' a = some u) : LamX.Tabs T H' := by
  intro p hp
  obtain ⟨ps, h1, h2, h3⟩ := t p hp
  refine ⟨ps, k _ _ trivial h1, h2, fun pos cv hc => ?_⟩
  obtain ⟨c, e1, e2⟩ := h3 pos cv hc
  refine ⟨c, e1, k _ _ ?_ e2⟩
  unfold LamX.CodeO
  exact trivial
def IsDk : HO → Prop
  | .dK _ => True
  | .dT _ => True
  | _ => False
structure Le (G : Gx) (ρ : Wd) (H : Hp) (ρ' : Wd) (H' : Hp) : Prop where
  pre : ρ.v <+: ρ'.v
  hid : ρ'.h = ρ.h
  tk : TK G H H'
  kl : ∀ a xs, ρ.no a → H a = some (.lst xs) → H' a = some (.lst xs)
  kp : ∀ a u, ρ.no a → IsDk u → Rd H a u → Rd H' a u
  ni : ∀ a, ρ.no a → SmO (H a) → ρ'.no a ∧ SmO (H' a)
  kh : ∀ a, a ∈ ρ.h → H a ≠ none → H' a = H a
  /-- what is locked stays so -/
  kz : ∀ a o u, H a = some (.frz o u) → H' a = some (.frz o u)
theorem rd_some {H : Hp} {a : Addr} {u : HO} (h : Rd H a u) : H a ≠ none := by
  rcases h with h | ⟨o, h⟩ <;> (rw [h]; simp)
theorem rd_sm {H : Hp} {a : Addr} {u : HO} (h : Rd H a u) (k : IsDk u) : SmO (H a) := by
  rcases h with h | ⟨o, h⟩
  · rw [h]
    cases u <;> first | exact k.elim | exact trivial
  · rw [h]
    exact trivial
theorem Le.refl {G : Gx} {ρ : Wd} {H : Hp} : Le G ρ H ρ H := ⟨List.prefix_refl _, rfl, fun _ _ _ h => h, fun _ _ _ h => h, fun _ _ _ _ h => h, fun _ h e => ⟨h, e⟩, fun _ _ _ => rfl, fun _ _ _ h => h⟩
theorem Le.trans {G : Gx} {ρ ρ' ρ'' : Wd} {H H' H'' : Hp} (a : Le G ρ H ρ' H') (b : Le G ρ' H' ρ'' H'') : Le G ρ H ρ'' H'' := by
  refine ⟨a.pre.trans b.pre, b.hid.trans a.hid, fun c xs t h => b.tk c xs t (a.tk c xs t h), fun c xs hc h => b.kl c xs (a.ni c hc (by rw [h]; trivial)).1 (a.kl c xs hc h), fun c u hc n h => ?_, fun c hc h => ?_, fun c hc h => ?_, fun c o u h => b.kz c o u (a.kz c o u h)⟩
  · exact b.kp c u (a.ni c hc (rd_sm h n)).1 n (a.kp c u hc n h)
  · obtain ⟨h1, h2⟩ := a.ni c hc h
    exact b.ni c h1 h2
  · have e := a.kh c hc h
    rw [b.kh c (by rw [a.hid]; exact hc) (by rw [e]; exact h), e]
theorem pre_get {ρ ρ' : List Addr} (h : ρ <+: ρ') {i : Nat} {a : Addr} (e : ρ[i]? = some a) : ρ'[i]? = some a := by
  obtain ⟨t, rfl⟩ := h
  obtain ⟨hl, _⟩ := List.getElem?_eq_some_iff.mp e
  rw [List.getElem?_append_left hl]
  exact e
/-- values move from one world to another -/
structure Mv (G : Gx) (ρ : Wd) (H : Hp) (ρ' : Wd) (H' : Hp) : Prop where
  at_ : ∀ (i : Nat) a, ρ.v[i]? = some a → ρ'.v[i]? = some a
  tk : TK G H H'
  kl : ∀ a xs, ρ.no a → H a = some (.lst xs) → ρ'.no a ∧ H' a = some (.lst xs)
  kp : ∀ a u, ρ.no a → IsDk u → Rd H a u → ρ'.no a ∧ Rd H' a u
mutual
theorem RV.move {G : Gx} {ρ ρ' : Wd} {H H' : Hp} (l : Mv G ρ H ρ' H') : ∀ {d : D} {v : V}, RV G ρ H d v → RV G ρ' H' d v
  | _, _, .non => .non
  | _, _, .bl b => .bl b
  | _, _, .int i => .int i
  | _, _, .str x => .str x
  | _, _, .ty n => .ty n
  | _, _, .cl h => .cl h
  | _, _, .fn h => .fn h
  | _, _, .ref e => .ref (l.at_ _ _ e)
  | _, _, .tup h r => .tup (l.tk _ _ trivial h) (RVs.move l r)
  | _, _, .fl h r => .fl (h.move l.tk) (RVs.move l r)
  | _, _, .kt h r => .kt h (RVs.move l r)
  | _, _, .cx e => .cx e
  | _, _, .ex e h k r => .ex e (l.tk _ _ trivial h) (l.tk _ _ trivial k) (RVs.move l r)
  | _, _, .lv n h r => .lv (l.kl _ _ n h).1 (l.kl _ _ n h).2 (RVs.move l r)
  | _, _, .dvK n h r => .dvK (l.kp _ (.dK _) n trivial h).1 (l.kp _ (.dK _) n trivial h).2 (RKs.move l r)
  | _, _, .dvT n h r => .dvT (l.kp _ (.dT _) n trivial h).1 (l.kp _ (.dT _) n trivial h).2 (RTs.move l r)
theorem RVs.move {G : Gx} {ρ ρ' : Wd} {H H' : Hp} (l : Mv G ρ H ρ' H') : ∀ {ds : List D} {vs : List V}, RVs G ρ H ds vs → RVs G ρ' H' ds vs
  | _, _, .nil => .nil
  | _, _, .cons h t => .cons (RV.move l h) (RVs.move l t)
theorem RKs.move {G : Gx} {ρ ρ' : Wd} {H H' : Hp} (l : Mv G ρ H ρ' H') : ∀ {ds : List (D × D)} {vs : List (Key × V)}, RKs G ρ H ds vs → RKs G ρ' H' ds vs
  | _, _, .nil => .nil
  | _, _, .cons k h t => .cons k (RV.move l h) (RKs.move l t)
theorem RTs.move {G : Gx} {ρ ρ' : Wd} {H H' : Hp} (l : Mv G ρ H ρ' H') : ∀ {ds : List (D × D)} {vs : List (List Key × V)}, RTs G ρ H ds vs → RTs G ρ' H' ds vs
  | _, _, .nil => .nil
  | _, _, .cons k h t => .cons k (RV.move l h) (RTs.move l t)
end
theorem Le.mv {G : Gx} {ρ ρ' : Wd} {H H' : Hp} (l : Le G ρ H ρ' H') : Mv G ρ H ρ' H' :=
  ⟨fun _ _ h => pre_get l.pre h, l.tk, fun a xs n h => ⟨(l.ni a n (by rw [h]; trivial)).1, l.kl a xs n h⟩, fun a u n dk h => ⟨(l.ni a n (rd_sm h dk)).1, l.kp a u n dk h⟩⟩
theorem Mv.trans {G : Gx} {ρ ρ' ρ'' : Wd} {H H' H'' : Hp} (a : Mv G ρ H ρ' H') (b : Mv G ρ' H' ρ'' H'') : Mv G ρ H ρ'' H'' :=
  ⟨fun i c h => b.at_ i c (a.at_ i c h), fun c xs t h => b.tk c xs t (a.tk c xs t h), fun c xs n h => b.kl c xs (a.kl c xs n h).1 (a.kl c xs n h).2, fun c u n dk h => b.kp c u (a.kp c u n dk h).1 dk (a.kp c u n dk h).2⟩
theorem RV.mono {G : Gx} {ρ ρ' : Wd} {H H' : Hp} (l : Le G ρ H ρ' H') {d : D} {v : V} (r : RV G ρ H d v) : RV G ρ' H' d v := r.move l.mv
theorem RVs.mono {G : Gx} {ρ ρ' : Wd} {H H' : Hp} (l : Le G ρ H ρ' H') {ds : List D} {vs : List V} (r : RVs G ρ H ds vs) : RVs G ρ' H' ds vs := r.move l.mv
theorem RVs.length {G : Gx} {ρ : Wd} {H : Hp} : ∀ {ds : List D} {vs : List V}, RVs G ρ H ds vs → ds.length = vs.length
  | _, _, .nil => rfl
  | _, _, .cons _ t => by simp [RVs.length t]
theorem RVs.append {G : Gx} {ρ : Wd} {H : Hp} : ∀ {ds es : List D} {vs us : List V}, RVs G ρ H ds vs → RVs G ρ H es us → RVs G ρ H (ds ++ es) (vs ++ us)
  | _, _, _, _, .nil, r => r
  | _, _, _, _, .cons h t, r => .cons h (RVs.append t r)
theorem RVs.get {G : Gx} {ρ : Wd} {H : Hp} : ∀ {ds : List D} {vs : List V} {i : Nat} {d : D}, RVs G ρ H ds vs → ds[i]? = some d → ∃ v, vs[i]? = some v ∧ RV G ρ H d v
  | _, _, _, _, .nil, e => by simp at e
  | _, _, 0, _, .cons h _, e => by simp at e; subst e; exact ⟨_, rfl, h⟩
  | _, _, i + 1, d, .cons _ t, e => by
    obtain ⟨v, h1, h2⟩ := RVs.get (i := i) (d := d) t (by simpa using e)
    exact ⟨v, by simpa using h1, h2⟩
theorem RVs.set {G : Gx} {ρ : Wd} {H : Hp} {d : D} {v : V} (h : RV G ρ H d v) : ∀ {ds : List D} {vs : List V} (i : Nat), RVs G ρ H ds vs → RVs G ρ H (ds.set i d) (vs.set i v)
  | _, _, _, .nil => .nil
  | _, _, 0, .cons _ t => .cons h t
  | _, _, i + 1, .cons q t => .cons q (RVs.set h i t)
section
variable (G : Gx) (ρ : Wd) (H : Hp)
inductive RFs : List (Nat × D) → List (Str × V) → Prop
  | nil : RFs [] []
  | cons {n : Nat} {d : D} {v : V} {fs : List (Nat × D)} {us : List (Str × V)} : RV G ρ H d v → RFs fs us → RFs ((n, d) :: fs) ((G.fld n, v) :: us)
inductive RO : Ob → HO → Prop
  | lst {ds : List D} {xs : List V} : RVs G ρ H ds xs → RO (.lst ds) (.lst xs)
  | dK {kvs : List (D × D)} {kus : List (Key × V)} : RKs G ρ H kvs kus → RO (.dic false kvs) (.dK kus)
  | dT {kvs : List (D × D)} {kus : List (List Key × V)} : RTs G ρ H kvs kus → RO (.dic true kvs) (.dT kus)
  | ins {c : Nat} {C dx : Addr} {fs : List (Nat × D)} {us : List (Str × V)} : G.cls c = some C → RFs G ρ H fs us → RO (.ins c fs) (.ins C dx us)
  | lck {o : Ob} {ob : Obj} {u : HO} : RO o u → RO (.lck o) (.frz ob u)
end
section
variable {G : Gx} {ρ ρ' : Wd} {H H' : Hp}
theorem RFs.move {ρ ρ' : Wd} {H H' : Hp} (l : Mv G ρ H ρ' H') : ∀ {ds : List (Nat × D)} {vs : List (Str × V)}, RFs G ρ H ds vs → RFs G ρ' H' ds vs
  | _, _, .nil => .nil
  | _, _, .cons h t => .cons (h.move l) (RFs.move l t)
theorem RO.move {ρ ρ' : Wd} {H H' : Hp} (l : Mv G ρ H ρ' H') {o : Ob} {u : HO} (r : RO G ρ H o u) : RO G ρ' H' o u := by
  induction r with
  | lst r => exact .lst (r.move l)
  | dK r => exact .dK (r.move l)
  | dT r => exact .dT (r.move l)
  | ins h r => exact .ins h (r.move l)
  | lck _ ih => exact .lck ih
theorem RO.mono (l : Le G ρ H ρ' H') {o : Ob} {u : HO} (r : RO G ρ H o u) : RO G ρ' H' o u := r.move l.mv
theorem RFs.length : ∀ {fs : List (Nat × D)} {us : List (Str × V)}, RFs G ρ H fs us → fs.length = us.length
  | _, _, .nil => rfl
  | _, _, .cons _ t => by simp [RFs.length t]
end

structure Rl (G : Gx) (ρ : Wd) (S : Store) (H : Hp) : Prop where
  len : ρ.v.length = S.size
  nd : ρ.v.Nodup
  hh : ∀ a, a ∈ ρ.h → a ∉ ρ.v ∧ SmO (H a)
  ob : ∀ i o, S.get i = some o → ∃ a u, ρ.v[i]? = some a ∧ H a = some u ∧ RO G ρ H o u
  tb : LamX.Tabs G.tabs H
theorem RO.ntb {G : Gx} {ρ : Wd} {H : Hp} {o : Ob} {u : HO} (r : RO G ρ H o u) : NTb u := by
  cases r <;> exact trivial
/-- slots -/
structure RE (G : Gx) (ρ : Wd) (H : Hp) (σs : En) (σ : St) : Prop where
  len : σs.length = σ.length
  get : ∀ (i : Nat) (d : D), σs[i]? = some (some d) → ∃ v : V, σ[i]? = some (some v) ∧ RV G ρ H d v
/-- an exception: its class, its fields -/
structure RX (G : Gx) (ρ : Wd) (H : Hp) (x : Xn) (cls : Value) (dd : Option Addr) : Prop where
  cls : G.clsv x.c = some cls
  fs : (dd = none ∧ x.fs = []) ∨ ∃ d us, dd = some d ∧ H d = some (.xd us) ∧ RFs G ρ H x.fs us
section
variable {G : Gx} {ρ ρ' : Wd} {H H' : Hp}
theorem RE.move {ρ ρ' : Wd} {H H' : Hp} (l : Mv G ρ H ρ' H') {σs : En} {σ : St} (r : RE G ρ H σs σ) : RE G ρ' H' σs σ := ⟨r.len, fun i d e => let ⟨v, h1, h2⟩ := r.get i d e; ⟨v, h1, h2.move l⟩⟩
theorem RE.mono (l : Le G ρ H ρ' H') {σs : En} {σ : St} (r : RE G ρ H σs σ) : RE G ρ' H' σs σ := ⟨r.len, fun i d e => let ⟨v, h1, h2⟩ := r.get i d e; ⟨v, h1, h2.mono l⟩⟩
theorem RE.set {σs : En} {σ : St} {d : D} {v : V} (r : RE G ρ H σs σ) (i : Nat) (h : RV G ρ H d v) : RE G ρ H (σs.set i (some d)) (σ.set i (some v)) := by
  refine ⟨by simp [r.len], fun j e hj => ?_⟩
  by_cases hij : i = j
  · subst hij
    by_cases hl : i < σs.length
    · rw [List.getElem?_set_self hl] at hj
      cases hj
      exact ⟨v, List.getElem?_set_self (by rw [← r.len]; exact hl), h⟩
    · rw [List.getElem?_eq_none (by simpa using hl)] at hj
      cases hj
  · rw [List.getElem?_set_ne hij] at hj ⊢
    exact r.get j e hj
end

section
variable {α β : Type} (G : Gx)
def PostR (R : Wd → Hp → α → β → Prop) (ρ : Wd) (H : Hp) (r : Res α) (Q : β → Hp → Prop) (E : XK) : Prop :=
  match r with
  | .ok d S' => ∀ ρ' H' v, Le G ρ H ρ' H' → Rl G ρ' S' H' → R ρ' H' d v → Q v H'
  | .exc x S' => ∀ ρ' H' cls dd, Le G ρ H ρ' H' → Rl G ρ' S' H' → RX G ρ' H' x cls dd → E cls dd H'
  | .bad => False
def PostS (ρ : Wd) (H : Hp) (r : RS) (Dn : Ends) (W : WX) : Prop :=
  match r with
  | .nx σs S' => ∀ ρ' H' σ', Le G ρ H ρ' H' → Rl G ρ' S' H' → RE G ρ' H' σs σ' → Dn.nx σ' H'
  | .bk σs S' => ∀ ρ' H' σ', Le G ρ H ρ' H' → Rl G ρ' S' H' → RE G ρ' H' σs σ' → Dn.bk σ' H'
  | .ct σs S' => ∀ ρ' H' σ', Le G ρ H ρ' H' → Rl G ρ' S' H' → RE G ρ' H' σs σ' → Dn.ct σ' H'
  | .rt d S' => ∀ ρ' H' v, Le G ρ H ρ' H' → Rl G ρ' S' H' → RV G ρ' H' d v → Dn.rt v H'
  | .exc x σs S' => ∀ ρ' H' σ' cls dd, Le G ρ H ρ' H' → Rl G ρ' S' H' → RE G ρ' H' σs σ' → RX G ρ' H' x cls dd → W cls dd σ' H'
  | .bad => False
end
abbrev Post (G : Gx) := PostR (α := D) (β := V) G (RV G)
abbrev PostA (G : Gx) := PostR (α := List D) (β := List V) G (RVs G)
abbrev PostT (G : Gx) := PostR (α := Bool) (β := Bool) G (fun _ _ b c => b = c)
section
variable {α β : Type} {G : Gx} {ρ ρ' : Wd} {H H' : Hp}
theorem PostR.le {R : Wd → Hp → α → β → Prop} {r : Res α} {Q : β → Hp → Prop} {E : XK} (p : PostR G R ρ H r Q E) (l : Le G ρ H ρ' H') : PostR G R ρ' H' r Q E := by
  cases r with
  | ok d S => exact fun ρ2 H2 v l2 rl h => p ρ2 H2 v (l.trans l2) rl h
  | exc x S => exact fun ρ2 H2 c dd l2 rl h => p ρ2 H2 c dd (l.trans l2) rl h
  | bad => exact p
theorem PostR.imp {R : Wd → Hp → α → β → Prop} {r : Res α} {Q Q' : β → Hp → Prop} {E E' : XK} (p : PostR G R ρ H r Q E) (h : ∀ v H', Q v H' → Q' v H') (hE : ∀ c d H', E c d H' → E' c d H') : PostR G R ρ H r Q' E' := by
  cases r with
  | ok d S => exact fun ρ2 H2 v l2 rl q => h _ _ (p ρ2 H2 v l2 rl q)
  | exc x S => exact fun ρ2 H2 c dd l2 rl q => hE _ _ _ (p ρ2 H2 c dd l2 rl q)
  | bad => exact p
theorem PostS.le {r : RS} {Dn : Ends} {W : WX} (p : PostS G ρ H r Dn W) (l : Le G ρ H ρ' H') : PostS G ρ' H' r Dn W := by
  cases r with
  | nx σ S => exact fun ρ2 H2 v l2 rl h => p ρ2 H2 v (l.trans l2) rl h
  | bk σ S => exact fun ρ2 H2 v l2 rl h => p ρ2 H2 v (l.trans l2) rl h
  | ct σ S => exact fun ρ2 H2 v l2 rl h => p ρ2 H2 v (l.trans l2) rl h
  | rt d S => exact fun ρ2 H2 v l2 rl h => p ρ2 H2 v (l.trans l2) rl h
  | exc x σ S => exact fun ρ2 H2 σ' c dd l2 rl re h => p ρ2 H2 σ' c dd (l.trans l2) rl re h
  | bad => exact p
/-- THE STEP: what is wanted of the first part, then of the rest -/
theorem PostR.bind {γ δ : Type} {R : Wd → Hp → α → β → Prop} {R' : Wd → Hp → γ → δ → Prop} {r : Res α} {f : α → Store → Res γ} {Q : δ → Hp → Prop} {E : XK} (p : PostR G R' ρ H (r.bind f) Q E)
    {Q1 : β → Hp → Prop} (k : ∀ ρ1 H1 S1 d v, Le G ρ H ρ1 H1 → Rl G ρ1 S1 H1 → R ρ1 H1 d v → PostR G R' ρ1 H1 (f d S1) Q E → Q1 v H1) : PostR G R ρ H r Q1 E := by
  cases r with
  | ok d S =>
    intro ρ1 H1 v l rl h
    exact k ρ1 H1 S d v l rl h (PostR.le (r := f d S) p l)
  | exc x S => exact p
  | bad => exact p
end

section
variable (G : Gx) (W : WX)
def tm (m : ME) : TE := fun σ H Q => ∃ ρ σs S, Rl G ρ S H ∧ RE G ρ H σs σ ∧ Post G ρ H (m σs S) Q (fun c d H' => W c d σ H')
def tma (m : MA) : TA := fun σ H Q => ∃ ρ σs S, Rl G ρ S H ∧ RE G ρ H σs σ ∧ PostA G ρ H (m σs S) Q (fun c d H' => W c d σ H')
def tmt (m : MT) : TT := fun σ H Q => ∃ ρ σs S, Rl G ρ S H ∧ RE G ρ H σs σ ∧ PostT G ρ H (m σs S) Q (fun c d H' => W c d σ H')
def tms (m : MS) : TS := fun Dn σ H => ∃ ρ σs S, Rl G ρ S H ∧ RE G ρ H σs σ ∧ PostS G ρ H (m σs S) Dn W
end
theorem PE.weak {X : Cx} {e : Expr} {t t' : TE} (h : PE X e t) (i : ∀ σ H Q, t' σ H Q → t σ H Q) : PE X e t' := ⟨fun pins s σ H Q I q => h.run pins s σ H Q I (i _ _ _ q)⟩
theorem PT.weak {X : Cx} {e : Expr} {t t' : TT} (h : PT X e t) (i : ∀ σ H Q, t' σ H Q → t σ H Q) : PT X e t' := ⟨fun pins s σ H Q I q => h.run pins s σ H Q I (i _ _ _ q)⟩
theorem PW.weak {X : Cx} {e : Expr} {t t' : TT} (h : PW X e t) (i : ∀ σ H Q, t' σ H Q → t σ H Q) : PW X e t' := ⟨fun w pins s σ H Q I q => h.run w pins s σ H Q I (i _ _ _ q)⟩
theorem PA.weak {X : Cx} {e : List Expr} {t t' : TA} (h : PA X e t) (i : ∀ σ H Q, t' σ H Q → t σ H Q) : PA X e t' := ⟨fun pos pins s σ H Q I q => h.run pos pins s σ H Q I (i _ _ _ q)⟩
theorem PS.weak {X : Cx} {e : Stmt} {t t' : TS} (h : PS X e t) (i : ∀ σ H Q, t' σ H Q → t σ H Q) : PS X e t' := ⟨fun pins s σ H D I q => h.run pins s σ H D I (i _ _ _ q)⟩
theorem PSs.weak {X : Cx} {e : List Stmt} {t t' : TS} (h : PSs X e t) (i : ∀ σ H Q, t' σ H Q → t σ H Q) : PSs X e t' := ⟨fun pins s σ H D I q => h.run pins s σ H D I (i _ _ _ q)⟩

section
variable {G : Gx} {ρ : Wd} {S : Store} {H : Hp}
theorem tk_new {p : Addr} {o : HO} (hp : H p = none) : TK G H (L2.upd H p o) := fun _ _ _ h => by rw [upd_ne (ne_of_none h hp)]; exact h
/-- the thing at p is no tuple -/
def NoT : HO → Prop
  | .tup _ => False
  | .frz _ _ => False
  | .xd _ => False
  | .tbl _ => False
  | .ext _ => False
  | _ => True
theorem NoT.noE {u : HO} (n : NoT u) (t : IsE u) : False := by
  cases u with
  | _ => first | exact n | exact t
theorem tabs_new {T : List (Addr × Str)} {H : Hp} {p : Addr} {o : HO} (t : LamX.Tabs T H) (hp : H p = none) : LamX.Tabs T (L2.upd H p o) :=
  tabs_move t fun a u _ e => by rw [upd_ne (ne_of_none e hp)]; exact e
theorem tabs_upd {T : List (Addr × Str)} {H : Hp} {p : Addr} {u o : HO} (t : LamX.Tabs T H) (hp : H p = some u) (nu : ¬ IsE u) : LamX.Tabs T (L2.upd H p o) :=
  tabs_move t fun a w i e => by
    rw [upd_ne (show a ≠ p from fun z => by rw [z, hp] at e; cases e; exact nu i)]
    exact e
theorem NoT.no {u : HO} (n : NoT u) (t : IsT u) : False := by
  cases u with
  | _ => first | exact n | exact t
theorem tk_upd {p : Addr} {o u : HO} (hp : H p = some u) (n : NoT u) : TK G H (L2.upd H p o) := fun a xs t h => by
  rw [upd_ne]
  · exact h
  · rintro rfl
    rw [h] at hp
    cases hp
    exact n.no t
theorem rd_new {p : Addr} {o : HO} (hp : H p = none) {a : Addr} {u : HO} (h : Rd H a u) : Rd (L2.upd H p o) a u := by
  have hne : a ≠ p := fun e => rd_some h (by rw [e]; exact hp)
  rcases h with h | ⟨ob, h⟩
  · exact .inl (by rw [upd_ne hne]; exact h)
  · exact .inr ⟨ob, by rw [upd_ne hne]; exact h⟩
theorem Le.new {p : Addr} {o : HO} (hp : H p = none) : Le G ρ H ρ (L2.upd H p o) := ⟨List.prefix_refl _, rfl, tk_new hp, fun _ _ _ h => by rw [upd_ne (ne_of_none h hp)]; exact h, fun _ _ _ _ h => rd_new hp h, fun a h e => ⟨h, by
  rw [upd_ne (show a ≠ p from fun z => e.ne (by rw [z]; exact hp))]; exact e⟩, fun a _ e => upd_ne (show a ≠ p from fun z => e (by rw [z]; exact hp)), fun _ _ _ h => by rw [upd_ne (ne_of_none h hp)]; exact h⟩
theorem Le.push {p : Addr} {o : HO} (hp : H p = none) : Le G ρ H (ρ.push p) (L2.upd H p o) := ⟨List.prefix_append _ _, rfl, tk_new hp, fun _ _ _ h => by rw [upd_ne (ne_of_none h hp)]; exact h, fun _ _ _ _ h => rd_new hp h, fun a h e => by
  have hne : a ≠ p := fun z => e.ne (by rw [z]; exact hp)
  exact ⟨⟨by simp [Wd.push, h.1, hne], h.2⟩, by rw [upd_ne hne]; exact e⟩, fun a _ e => upd_ne (show a ≠ p from fun z => e (by rw [z]; exact hp)), fun _ _ _ h => by rw [upd_ne (ne_of_none h hp)]; exact h⟩
theorem Le.upd {p : Addr} {u u' : HO} (hm : p ∈ ρ.v) (hx : p ∉ ρ.h) (hp : H p = some u) (n : NoT u) : Le G ρ H ρ (L2.upd H p u') := ⟨List.prefix_refl _, rfl, tk_upd hp n, fun a xs ha h => by
    rw [upd_ne (show a ≠ p from fun z => ha.1 (by rw [z]; exact hm))]; exact h, fun a v ha _ h => by
  have hne : a ≠ p := fun z => ha.1 (by rw [z]; exact hm)
  rcases h with h | ⟨ob, h⟩
  · exact .inl (by rw [upd_ne hne]; exact h)
  · exact .inr ⟨ob, by rw [upd_ne hne]; exact h⟩, fun a ha e => ⟨ha, by rw [upd_ne (show a ≠ p from fun z => ha.1 (by rw [z]; exact hm))]; exact e⟩, fun a ha _ => upd_ne (show a ≠ p from fun z => hx (by rw [← z]; exact ha)), fun a o v h => by
  rw [upd_ne (show a ≠ p from fun z => by rw [z, hp] at h; cases h; exact n)]
  exact h⟩
/-- something new that the store does not know -/
theorem Rl.other {p : Addr} {o : HO} (r : Rl G ρ S H) (hp : H p = none) : Rl G ρ S (L2.upd H p o) := by
  refine ⟨r.len, r.nd, fun a ha => ⟨(r.hh a ha).1, ?_⟩, fun i ob e => ?_, tabs_new r.tb hp⟩
  · have e := (r.hh a ha).2
    rw [upd_ne (show a ≠ p from fun z => e.ne (by rw [z]; exact hp))]
    exact e
  · obtain ⟨a, u, h1, h2, h3⟩ := r.ob i ob e
    exact ⟨a, u, h1, by rw [upd_ne (ne_of_none h2 hp)]; exact h2, h3.mono (Le.new hp)⟩
theorem Store.all {S : Store} (i : Nat) (h : i < S.size) : ∃ o, S.get i = some o := by
  unfold Store.get Store.size at *
  exact ⟨S.objs[i], List.getElem?_eq_getElem h⟩
theorem Rl.no {p : Addr} (r : Rl G ρ S H) (hp : H p = none) : ρ.no p := by
  refine ⟨fun hm => ?_, fun hm => (r.hh p hm).2.ne hp⟩
  obtain ⟨i, hl, e⟩ := List.getElem_of_mem hm
  obtain ⟨o, ho⟩ := Store.all (S := S) i (by rw [← r.len]; exact hl)
  obtain ⟨a, u, h1, h2, _⟩ := r.ob i o ho
  rw [List.getElem?_eq_getElem hl, e] at h1
  cases h1
  rw [h2] at hp
  cases hp
theorem Rl.nh {p : Addr} {i : Nat} (r : Rl G ρ S H) (hi : ρ.v[i]? = some p) : p ∉ ρ.h := fun hm => (r.hh p hm).1 (List.mem_of_getElem? hi)
theorem Rl.leUpd {p : Addr} {i : Nat} {u u' : HO} (r : Rl G ρ S H) (hi : ρ.v[i]? = some p) (hp : H p = some u) (n : NoT u) : Le G ρ H ρ (L2.upd H p u') := Le.upd (List.mem_of_getElem? hi) (r.nh hi) hp n
/-- a new thing of the store -/
theorem Rl.push {p : Addr} {o : Ob} {u : HO} (r : Rl G ρ S H) (hp : H p = none) (ro : RO G ρ H o u) : Rl G (ρ.push p) (S.push o) (L2.upd H p u) := by
  have l : Le G ρ H (ρ.push p) (L2.upd H p u) := Le.push hp
  have hn := r.no hp
  refine ⟨by simp [Wd.push, r.len, Store.size_push], ?_, fun a ha => ?_, fun i ob e => ?_, tabs_new r.tb hp⟩
  · show (ρ.v ++ [p]).Nodup
    rw [List.nodup_append]
    refine ⟨r.nd, by simp, fun a ha b hb => ?_⟩
    simp only [List.mem_singleton] at hb
    subst hb
    rintro rfl
    exact hn.1 ha
  · obtain ⟨h1, h2⟩ := r.hh a ha
    have hne : a ≠ p := fun z => h2.ne (by rw [z]; exact hp)
    exact ⟨by simp [Wd.push, h1, hne], by rw [upd_ne hne]; exact h2⟩
  · by_cases hi : i = S.size
    · subst hi
      rw [Store.get_push_same] at e
      cases e
      refine ⟨p, u, ?_, upd_same, ro.mono l⟩
      rw [← r.len]
      simp [Wd.push]
    · rw [Store.get_push_ne hi] at e
      obtain ⟨a, u', h1, h2, h3⟩ := r.ob i ob e
      exact ⟨a, u', pre_get l.pre h1, by rw [upd_ne (ne_of_none h2 hp)]; exact h2, h3.mono l⟩
theorem RV.new {p : Addr} {u : HO} (r : Rl G ρ S H) : RV G (ρ.push p) (L2.upd H p u) (.ref S.size) (.ref p) := .ref (by rw [← r.len]; simp [Wd.push])
theorem nd_get {l : List Addr} (nd : l.Nodup) {i j : Nat} {a : Addr} (h1 : l[i]? = some a) (h2 : l[j]? = some a) : i = j := by
  obtain ⟨a1, e1⟩ := List.getElem?_eq_some_iff.mp h1
  obtain ⟨a2, e2⟩ := List.getElem?_eq_some_iff.mp h2
  have pw := List.pairwise_iff_getElem.mp nd
  rcases Nat.lt_trichotomy i j with h | h | h
  · exact absurd (e1.trans e2.symm) (pw i j a1 a2 h)
  · exact h
  · exact absurd (e2.trans e1.symm) (pw j i a2 a1 h)
/-- a thing of the store is changed -/
theorem Rl.set {p : Addr} {o o' : Ob} {u u' : HO} {i : Nat} (r : Rl G ρ S H) (hi : ρ.v[i]? = some p) (ho : S.get i = some o) (hp : H p = some u) (n : NoT u) (ro : RO G ρ H o' u') : Rl G ρ (S.set i o') (L2.upd H p u') := by
  have l : Le G ρ H ρ (L2.upd H p u') := r.leUpd hi hp n
  refine ⟨by rw [Store.size_set]; exact r.len, r.nd, fun a ha => ⟨(r.hh a ha).1, ?_⟩, fun j ob e => ?_, tabs_upd r.tb hp n.noE⟩
  · rw [l.kh a ha (r.hh a ha).2.ne]
    exact (r.hh a ha).2
  by_cases hij : i = j
  · subst hij
    rw [Store.get_set_same (Store.get_lt ho)] at e
    cases e
    exact ⟨p, u', hi, upd_same, ro.mono l⟩
  · rw [Store.get_set_ne hij] at e
    obtain ⟨a, v, h1, h2, h3⟩ := r.ob j ob e
    refine ⟨a, v, h1, ?_, h3.mono l⟩
    rw [upd_ne]
    · exact h2
    · rintro rfl
      exact hij (nd_get r.nd hi h1)
/-- what stands at a reference -/
theorem Rl.at {i : Nat} {a : Addr} {o : Ob} (r : Rl G ρ S H) (h : ρ.v[i]? = some a) (e : S.get i = some o) : ∃ u, H a = some u ∧ RO G ρ H o u := by
  obtain ⟨b, u, h1, h2, h3⟩ := r.ob i o e
  rw [h] at h1
  cases h1
  exact ⟨u, h2, h3⟩
end
end L2.Mi

set_option Elab.async false
set_option linter.all false
set_option maxRecDepth 100000
set_option maxHeartbeats 4000000
namespace L2.Mi
open PySem PySem.Spec PyProof.Rows

theorem Res.bind_assoc {α β γ : Type} {r : Res α} {f : α → Store → Res β} {g : β → Store → Res γ} : (r.bind f).bind g = r.bind fun a S => (f a S).bind g := by
  cases r <;> rfl

def eVar (i : Nat) : ME := fun σ S => match σ[i]? with | some (some d) => .ok d S | _ => .bad
def eC (d : D) : ME := fun _ S => .ok d S
def eBin (f : D → D → Store → Res D) (a b : ME) : ME := fun σ S => (a σ S).bind fun x S1 => (b σ S1).bind fun y S2 => f x y S2
def aList : List ME → MA
  | [] => fun _ S => .ok [] S
  | m :: ms => fun σ S => (m σ S).bind fun x S1 => (aList ms σ S1).bind fun xs S2 => .ok (x :: xs) S2
def eTup (ms : List ME) : ME := fun σ S => (aList ms σ S).bind fun xs S1 => .ok (.tup xs) S1
/-- a list that is changed later, one that is not -/
def eLst (ms : List ME) : ME := fun σ S => (aList ms σ S).bind fun xs S1 => .ok (.ref S1.size) (S1.push (.lst xs))
def eLv (ms : List ME) : ME := fun σ S => (aList ms σ S).bind fun xs S1 => .ok (.lv xs) S1
/-- a call of a built-in -/
def eFn (f : List D → Store → Res D) (a : MA) : ME := fun σ S => (a σ S).bind f
def tOf (m : ME) : MT := fun σ S => (m σ S).bind fun d S1 => match d with | .bl b => .ok b S1 | _ => .bad
def tOr (a b : MT) : MT := fun σ S => (a σ S).bind fun c S1 => if c then .ok true S1 else b σ S1
def tNot (a : MT) : MT := fun σ S => (a σ S).bind fun c S1 => .ok (!c) S1
def eAnd (a b : ME) : ME := fun σ S => (tOf a σ S).bind fun c S1 => if c then b σ S1 else .ok (.bl false) S1
def eNot (a : ME) : ME := fun σ S => (tOf a σ S).bind fun c S1 => .ok (.bl (!c)) S1
def sNext : MS := fun σ S => .nx σ S
def sSeq (a b : MS) : MS := fun σ S => match a σ S with | .nx σ1 S1 => b σ1 S1 | r => r
def sRet (m : ME) : MS := fun σ S => match m σ S with | .ok d S1 => .rt d S1 | .exc x S1 => .exc x σ S1 | .bad => .bad
def sIf (t : MT) (a b : MS) : MS := fun σ S => match t σ S with | .ok c S1 => (if c then a σ S1 else b σ S1) | .exc x S1 => .exc x σ S1 | .bad => .bad
/-- targets -/
abbrev MG := D → En → Store → Res En
def gName (i : Nat) : MG := fun d σ S => .ok (σ.set i (some d)) S
def gAll : List MG → List D → En → Store → Res En
  | [], [], σ, S => .ok σ S
  | g :: gs, d :: ds, σ, S => (g d σ S).bind fun σ1 S1 => gAll gs ds σ1 S1
  | _, _, _, _ => .bad
def gTup (gs : List MG) : MG := fun d σ S => match d with
  | .tup ds => gAll gs ds σ S
  | _ => .bad
def sAsg (m : ME) (g : MG) : MS := fun σ S => match m σ S with
  | .ok d S1 => (match g d σ S1 with | .ok σ2 S2 => .nx σ2 S2 | _ => .bad)
  | .exc x S1 => .exc x σ S1
  | .bad => .bad
abbrev sSet (i : Nat) (m : ME) : MS := sAsg m (gName i)
/-- what is walked: at turn k, in a store: an item, or the end -/
abbrev Src := Nat → Store → Option (Option D)
abbrev MI := En → Store → Res Src
def forGo (src : Src) (g : MG) (b : MS) : Nat → Nat → MS
  | 0, _ => fun _ _ => .bad
  | n + 1, k => fun σ S => match src k S with
    | none => .bad
    | some none => .nx σ S
    | some (some d) => (match g d σ S with
      | .ok σ1 S1 => (match b σ1 S1 with
        | .nx σ2 S2 => forGo src g b n (k + 1) σ2 S2
        | .ct σ2 S2 => forGo src g b n (k + 1) σ2 S2
        | .bk σ2 S2 => .nx σ2 S2
        | r => r)
      | _ => .bad)
def sFor (i : MI) (g : MG) (b : MS) (n : Nat) : MS := fun σ S => match i σ S with
  | .ok src S1 => forGo src g b n 0 σ S1
  | .exc x S1 => .exc x σ S1
  | .bad => .bad
def iTup (m : ME) : MI := fun σ S => (m σ S).bind fun d S1 => match d with
  | .tup ds => .ok (fun k _ => some ds[k]?) S1
  | .kt ds => .ok (fun k _ => some ds[k]?) S1
  | _ => .bad
/-- the items of a list as it stands -/
def listAt (S : Store) : D → Option (List D)
  | .lv ds => some ds
  | .fl ds => some ds
  | .ref a => (match S.get a with | some (.lst ds) => some ds | some (.lck (.lst ds)) => some ds | _ => none)
  | _ => none
def iList (m : ME) : MI := fun σ S => (m σ S).bind fun d S1 => match listAt S1 d with
  | some _ => .ok (fun k S' => (listAt S' d).map fun ds => ds[k]?) S1
  | none => .bad
def i62 (j : Int) : Bool := decide (-(2 ^ 62) ≤ j) && decide (j < 2 ^ 62)
def iRange1 (m : ME) : MI := fun σ S => (m σ S).bind fun d S1 => match d with
  | .int j => if i62 j then .ok (fun k _ => some (if k < j.toNat then some (.int (0 + (k : Int))) else none)) S1 else .bad
  | _ => .bad
structure Cc (G : Gx) (X : Cx) (W : WX) : Prop where
  k : X.K = G.K
  tk : Takes X W
  hp : PassesOwn (model X.prog X.w) X.A X.env X.xe
  calm : X.calm = true
  nd : X.N.Nodup
abbrev SE (G : Gx) (X : Cx) (W : WX) (e : Expr) (m : ME) : Prop := PE X e (tm G W m)
abbrev SA (G : Gx) (X : Cx) (W : WX) (es : List Expr) (m : MA) : Prop := PA X es (tma G W m)
abbrev ST (G : Gx) (X : Cx) (W : WX) (e : Expr) (m : MT) : Prop := PT X e (tmt G W m)
abbrev SW (G : Gx) (X : Cx) (W : WX) (e : Expr) (m : MT) : Prop := PW X e (tmt G W m)
abbrev SS (G : Gx) (X : Cx) (W : WX) (st : Stmt) (m : MS) : Prop := PS X st (tms G W m)
abbrev SSs (G : Gx) (X : Cx) (W : WX) (st : List Stmt) (m : MS) : Prop := PSs X st (tms G W m)

abbrev EW (W : WX) (σ : St) : XK := fun c d H' => W c d σ H'
section
variable {G : Gx} {X : Cx} {W : WX} {pins : List (Addr × Obj)} {σ : St} {H : Hp} {s : Shared} {ρ : Wd} {σs : En} {S : Store} {α β : Type} {R : Wd → Hp → α → β → Prop} {Q : β → Hp → Prop}
/-- an expression, then the rest -/
theorem SE.go {e : Expr} {m : ME} {f : D → Store → Res α} (h : SE G X W e m) (I : Inv X pins σ H s) (rl : Rl G ρ S H) (re : RE G ρ H σs σ) (p : PostR G R ρ H ((m σs S).bind f) Q (EW W σ)) {Z : Value → Shared → Prop}
    (k : ∀ v s1 x H1 ρ1 S1 d, Inv X pins σ H1 s1 → RelV x v → Le G ρ H ρ1 H1 → Rl G ρ1 S1 H1 → RE G ρ1 H1 σs σ → RV G ρ1 H1 d x → PostR G R ρ1 H1 (f d S1) Q (EW W σ) → Z v s1) :
    wpAny (model X.prog X.w) X.A (eval e X.env) Z X.xe s := by
  refine thn (h.run pins s σ H (fun x H1 => ∃ ρ1 S1 d, Le G ρ H ρ1 H1 ∧ Rl G ρ1 S1 H1 ∧ RV G ρ1 H1 d x ∧ PostR G R ρ1 H1 (f d S1) Q (EW W σ)) I ⟨ρ, σs, S, rl, re, p.bind (R := RV G) fun ρ1 H1 S1 d v l r1 rv p1 => ⟨ρ1, S1, d, l, r1, rv, p1⟩⟩) ?_
  rintro v s1 ⟨x, H1, I1, rx, ρ1, S1, d, l, r1, rv, p1⟩
  exact k v s1 x H1 ρ1 S1 d I1 rx l r1 (re.mono l) rv p1
theorem SA.go {es : List Expr} {m : MA} {pos : Pos} {f : List D → Store → Res α} (h : SA G X W es m) (I : Inv X pins σ H s) (rl : Rl G ρ S H) (re : RE G ρ H σs σ) (p : PostR G R ρ H ((m σs S).bind f) Q (EW W σ)) {Z : List Value → Shared → Prop}
    (k : ∀ us s1 xs H1 ρ1 S1 ds, Inv X pins σ H1 s1 → Vals xs us → Le G ρ H ρ1 H1 → Rl G ρ1 S1 H1 → RE G ρ1 H1 σs σ → RVs G ρ1 H1 ds xs → PostR G R ρ1 H1 (f ds S1) Q (EW W σ) → Z us s1) :
    wpAny (model X.prog X.w) X.A (spliced (backTo pos (starEach es X.env))) Z X.xe s := by
  refine thn (h.run pos pins s σ H (fun xs H1 => ∃ ρ1 S1 ds, Le G ρ H ρ1 H1 ∧ Rl G ρ1 S1 H1 ∧ RVs G ρ1 H1 ds xs ∧ PostR G R ρ1 H1 (f ds S1) Q (EW W σ)) I ⟨ρ, σs, S, rl, re, p.bind (R := RVs G) fun ρ1 H1 S1 d v l r1 rv p1 => ⟨ρ1, S1, d, l, r1, rv, p1⟩⟩) ?_
  rintro v s1 ⟨x, H1, I1, rx, ρ1, S1, d, l, r1, rv, p1⟩
  exact k v s1 x H1 ρ1 S1 d I1 rx l r1 (re.mono l) rv p1
theorem ST.go {e : Expr} {m : MT} {f : Bool → Store → Res α} (h : ST G X W e m) (I : Inv X pins σ H s) (rl : Rl G ρ S H) (re : RE G ρ H σs σ) (p : PostR G R ρ H ((m σs S).bind f) Q (EW W σ)) {Z : Bool → Shared → Prop}
    (k : ∀ b s1 H1 ρ1 S1, Inv X pins σ H1 s1 → Le G ρ H ρ1 H1 → Rl G ρ1 S1 H1 → RE G ρ1 H1 σs σ → PostR G R ρ1 H1 (f b S1) Q (EW W σ) → Z b s1) :
    wpAny (model X.prog X.w) X.A (isTrue e X.env (eval e X.env)) Z X.xe s := by
  refine thn (h.run pins s σ H (fun b H1 => ∃ ρ1 S1, Le G ρ H ρ1 H1 ∧ Rl G ρ1 S1 H1 ∧ PostR G R ρ1 H1 (f b S1) Q (EW W σ)) I ⟨ρ, σs, S, rl, re, p.bind (R := fun _ _ b c => b = c) fun ρ1 H1 S1 d v l r1 rv p1 => ⟨ρ1, S1, l, r1, rv ▸ p1⟩⟩) ?_
  rintro v s1 ⟨H1, I1, ρ1, S1, l, r1, p1⟩
  exact k v s1 H1 ρ1 S1 I1 l r1 (re.mono l) p1
/-- a value is given out -/
theorem post_ok {Q : VK} {E : XK} {d : D} {x : V} (p : Post G ρ H (.ok d S) Q E) (rl : Rl G ρ S H) (rv : RV G ρ H d x) : Q x H := p ρ H x Le.refl rl rv
theorem post_new {Q : VK} {E : XK} {d : D} {x : V} {a : Addr} {u : HO} (p : Post G ρ H (.ok d S) Q E) (rl : Rl G ρ S H) (hn : H a = none) (rv : RV G ρ (L2.upd H a u) d x) : Q x (L2.upd H a u) := p ρ _ x (Le.new hn) (rl.other hn) rv
end

def OpS (G : Gx) (X : Cx) (W : WX) (F : Value → Value → Sem Value) (f : D → D → Store → Res D) : Prop :=
  ∀ (pins : List (Addr × Obj)) (s : Shared) (σ : St) (H : Hp) (x y : V) (v u : Value) (Q : VK) (ρ : Wd) (S : Store) (d1 d2 : D), Inv X pins σ H s → RelV x v → RelV y u → Rl G ρ S H → RV G ρ H d1 x → RV G ρ H d2 y →
    Post G ρ H (f d1 d2 S) Q (EW W σ) → wpAny (model X.prog X.w) X.A (F v u) (EP X pins σ Q) X.xe s
def UnS (G : Gx) (X : Cx) (W : WX) (F : Value → Sem Value) (f : D → Store → Res D) : Prop :=
  ∀ (pins : List (Addr × Obj)) (s : Shared) (σ : St) (H : Hp) (x : V) (v : Value) (Q : VK) (ρ : Wd) (S : Store) (d : D), Inv X pins σ H s → RelV x v → Rl G ρ S H → RV G ρ H d x →
    Post G ρ H (f d S) Q (EW W σ) → wpAny (model X.prog X.w) X.A (F v) (EP X pins σ Q) X.xe s
def FnS (G : Gx) (X : Cx) (W : WX) (F : Value) (f : List D → Store → Res D) : Prop :=
  ∀ (pins : List (Addr × Obj)) (s : Shared) (σ : St) (H : Hp) (xs : List V) (us : List Value) (Q : VK) (ρ : Wd) (S : Store) (ds : List D), Inv X pins σ H s → Vals xs us → Rl G ρ S H → RVs G ρ H ds xs →
    Post G ρ H (f ds S) Q (EW W σ) → wpAny (model X.prog X.w) X.A (call F us) (EP X pins σ Q) X.xe s
section
variable {G : Gx} {X : Cx} {W : WX}
theorem OpS.of {F : Value → Value → Sem Value} {f : D → D → Store → Res D} {r : R2} (ho : OpR X F r)
    (h : ∀ ρ S H d1 d2 x y Q E, Rl G ρ S H → RV G ρ H d1 x → RV G ρ H d2 y → Post G ρ H (f d1 d2 S) Q E → r x y H Q) : OpS G X W F f :=
  fun pins s σ H x y v u Q ρ S d1 d2 I rx ry rl r1 r2 p => ho pins s σ H x y v u Q I rx ry (h ρ S H d1 d2 x y Q _ rl r1 r2 p)
theorem UnS.of {F : Value → Sem Value} {f : D → Store → Res D} {r : V → Hp → VK → Prop} (ho : UnR X F r)
    (h : ∀ ρ S H d x Q E, Rl G ρ S H → RV G ρ H d x → Post G ρ H (f d S) Q E → r x H Q) : UnS G X W F f :=
  fun pins s σ H x v Q ρ S d I rx rl r1 p => ho pins s σ H x v Q I rx (h ρ S H d x Q _ rl r1 p)
theorem FnS.of {F : Value} {f : List D → Store → Res D} {r : List V → Hp → VK → Prop} (ho : CallR X F r)
    (h : ∀ ρ S H ds xs Q E, Rl G ρ S H → RVs G ρ H ds xs → Post G ρ H (f ds S) Q E → r xs H Q) : FnS G X W F f :=
  fun pins s σ H xs us Q ρ S ds I r rl r1 p => ho pins s σ H xs us Q I r (h ρ S H ds xs Q _ rl r1 p)
end

section
variable {G : Gx} {X : Cx} {W : WX} {a b c e : Expr} {es : List Expr} {ma mb mc m : ME} {t u : MT} {pos : Pos}
theorem se_of {tr : TE} (h : PE X e tr) (i : ∀ σ H Q ρ σs S, Rl G ρ S H → RE G ρ H σs σ → Post G ρ H (m σs S) Q (EW W σ) → tr σ H Q) : SE G X W e m :=
  PE.weak h fun σ H Q ⟨ρ, σs, S, rl, re, p⟩ => i σ H Q ρ σs S rl re p
theorem se_var (i : Nat) {x : Str} (hN : X.N[i]? = some x := by rfl) (hv : Vis X.env.scope x := by first | exact Or.inl rfl | exact Or.inr (Or.inl rfl) | exact Or.inr (Or.inr rfl)) (hd : (x == ("__debug__" : Str)) = false := by decide)
    (hcd : (x == ("__classdict__" : Str)) = false := by decide) : SE G X W (.Name x pos) (eVar i) := by
  refine se_of (pe_var hN hv hd hcd) fun σ H Q ρ σs S rl re p => ?_
  unfold eVar at p
  cases q : σs[i]? with
  | none => rw [q] at p; exact p.elim
  | some o =>
    cases o with
    | none => rw [q] at p; exact p.elim
    | some d =>
      rw [q] at p
      obtain ⟨v, h1, h2⟩ := re.get i d q
      exact ⟨v, h1, post_ok p rl h2⟩
theorem se_int {i : Int} {j : Nat} : SE G X W (.Constant (.int i) j pos) (eC (.int i)) := se_of pe_int fun _ _ _ _ _ _ rl _ p => post_ok p rl (.int i)
theorem se_bl {i : Bool} {j : Nat} : SE G X W (.Constant (.bool i) j pos) (eC (.bl i)) := se_of pe_bl fun _ _ _ _ _ _ rl _ p => post_ok p rl (.bl i)
theorem se_non {j : Nat} : SE G X W (.Constant .none j pos) (eC .non) := se_of pe_non fun _ _ _ _ _ _ rl _ p => post_ok p rl .non
theorem rv_str {ρ : Wd} {H : Hp} (x : Str) : RV G ρ H (.str x.cps.toList) (.str x) := by
  have h : RV G ρ H (.str x.cps.toList) (.str ⟨x.cps.toList.toArray⟩) := .str x.cps.toList
  simpa using h
theorem se_str {x : Str} {j : Nat} (l : List Nat) (hl : x.cps.toList = l := by rfl) : SE G X W (.Constant (.str x) j pos) (eC (.str l)) := by
  subst hl
  exact se_of pe_str fun _ _ _ _ _ _ rl _ p => post_ok p rl (rv_str x)
theorem se_bin {op : Operator} {f : D → D → Store → Res D} (ho : OpS G X W (binaryOp op) f) (ha : SE G X W a ma) (hb : SE G X W b mb) : SE G X W (.BinOp a op b pos) (eBin f ma mb) :=
  ⟨fun pins s σ H Q I ⟨ρ, σs, S, rl, re, p⟩ => wpAny_BinOp (ha.go I rl re p fun v s1 x H1 ρ1 S1 d I1 rx l1 rl1 re1 rv1 p1 => hb.go I1 rl1 re1 p1 fun u s2 y H2 ρ2 S2 e I2 ry l2 rl2 re2 rv2 p2 =>
    ho pins s2 σ H2 x y v u Q ρ2 S2 d e I2 rx ry rl2 (rv1.mono l2) rv2 p2)⟩
theorem se_cmp {op : CmpOp} {f : D → D → Store → Res D} (ho : OpS G X W (compareOp op) f) (ha : SE G X W a ma) (hb : SE G X W b mb) (hm : behindInMarks op b = false := by first | exact nobehind _ (by decide) (by decide) | rfl) : SE G X W (.Compare a [op] [b] pos) (eBin f ma mb) :=
  ⟨fun pins s σ H Q I ⟨ρ, σs, S, rl, re, p⟩ => wpAny_Compare1 (ha.go I rl re p fun v s1 x H1 ρ1 S1 d I1 rx l1 rl1 re1 rv1 p1 => hb.go I1 rl1 re1 p1 fun u s2 y H2 ρ2 S2 e I2 ry l2 rl2 re2 rv2 p2 =>
    ho pins s2 σ H2 x y v u Q ρ2 S2 d e I2 rx ry rl2 (rv1.mono l2) rv2 p2) hm⟩
/-- a value that is a bool, behind a test's run -/
theorem bool_go {pins : List (Addr × Obj)} {σ : St} {H : Hp} {ρ : Wd} {d : D} {S : Store} {Q : Bool → Hp → Prop} {E : XK} {x : V} (p : PostT G ρ H (match d with | .bl b => .ok b S | _ => .bad) Q E) (rl : Rl G ρ S H) (rv : RV G ρ H d x) : ∃ k, x = .bl k ∧ Q k H := by
  cases rv with
  | bl b => exact ⟨b, rfl, p ρ H b Le.refl rl rfl⟩
  | _ => exact p.elim
/-- a comparison as a test -/
theorem st_cmp {op : CmpOp} {f : D → D → Store → Res D} (ho : OpS G X W (compareOp op) f) (ha : SE G X W a ma) (hb : SE G X W b mb) (hm : behindInMarks op b = false := by first | exact nobehind _ (by decide) (by decide) | rfl) : ST G X W (.Compare a [op] [b] pos) (tOf (eBin f ma mb)) := by
  refine ⟨fun pins s σ H Q I ⟨ρ, σs, S, rl, re, p⟩ => ?_⟩
  have p0 : PostT G ρ H ((ma σs S).bind fun x S1 => ((mb σs S1).bind fun y S2 => f x y S2).bind fun d S3 => match d with | .bl b => .ok b S3 | _ => .bad) Q (EW W σ) := by
    have p' := p
    unfold tOf eBin at p'
    rw [Res.bind_assoc] at p'
    exact p'
  refine wpAny_isTrue_Compare1 (ha.go I rl re p0 fun v s1 x H1 ρ1 S1 d I1 rx l1 rl1 re1 rv1 p1 => ?_) hm
  have p1' : PostT G ρ1 H1 ((mb σs S1).bind fun y S2 => (f d y S2).bind fun d S3 => match d with | .bl b => .ok b S3 | _ => .bad) Q (EW W σ) := by
    rw [Res.bind_assoc] at p1
    exact p1
  refine hb.go I1 rl1 re1 p1' fun u s2 y H2 ρ2 S2 e I2 ry l2 rl2 re2 rv2 p2 => ?_
  refine thn (ho pins s2 σ H2 x y v u _ ρ2 S2 d e I2 rx ry rl2 (rv1.mono l2) rv2 (p2.bind (R := RV G) (Q1 := fun z H3 => ∃ k, z = .bl k ∧ Q k H3) fun ρ3 H3 S3 z w l3 rl3 rv3 p3 => bool_go (pins := pins) (σ := σ) p3 rl3 rv3)) ?_
  rintro c s3 ⟨z, H3, I3, r3, k, rfl, q3⟩
  cases r3
  exact wpAny_truthy_bool ⟨H3, I3, q3⟩
theorem sw_or1 (ha : ST G X W a t) : SW G X W (.BoolOp .Or [a] pos) t := pw_or1 ha
theorem sw_or {rest : List Expr} (ha : ST G X W a t) (hb : SW G X W (.BoolOp .Or (b :: rest) pos) u) : SW G X W (.BoolOp .Or (a :: b :: rest) pos) (tOr t u) := by
  refine PW.weak (pw_or ha hb) fun σ H Q ⟨ρ, σs, S, rl, re, p⟩ => ?_
  refine ⟨ρ, σs, S, rl, re, p.bind (R := fun _ _ b c => b = c) fun ρ1 H1 S1 c1 c2 l1 rl1 rv1 p1 => ?_⟩
  subst rv1
  cases c1 with
  | false => exact ⟨ρ1, σs, S1, rl1, re.mono l1, p1⟩
  | true => exact p1 ρ1 H1 true Le.refl rl1 rfl
theorem st_w (h : SW G X W e t) : ST G X W e t := h.pt
theorem st_not (ha : ST G X W a t) : ST G X W (.UnaryOp .Not a pos) (tNot t) := by
  refine PT.weak (pt_not ha) fun σ H Q ⟨ρ, σs, S, rl, re, p⟩ => ?_
  refine ⟨ρ, σs, S, rl, re, p.bind (R := fun _ _ b c => b = c) fun ρ1 H1 S1 c1 c2 l1 rl1 rv1 p1 => ?_⟩
  subst rv1
  exact p1 ρ1 H1 (!c1) Le.refl rl1 rfl
/-- and, or, not as values of bools -/
theorem se_one {op} (h : SE G X W a m) : SE G X W (.BoolOp op [a] pos) m := pe_one h
theorem tof_go {σ : St} {H : Hp} {ρ : Wd} {σs : En} {S : Store} {Q : VK} {E : XK} {f : Bool → Store → Res D} (rl : Rl G ρ S H) (p : Post G ρ H ((tOf m σs S).bind f) Q E) {Q1 : VK}
    (k : ∀ ρ1 H1 S1 c, Le G ρ H ρ1 H1 → Rl G ρ1 S1 H1 → Post G ρ1 H1 (f c S1) Q E → Q1 (.bl c) H1) : Post G ρ H (m σs S) Q1 E := by
  unfold tOf at p
  cases q : m σs S with
  | ok d S1 =>
    rw [q] at p
    intro ρ1 H1 v l1 rl1 rv1
    cases rv1 with
    | bl b => exact k ρ1 H1 S1 b l1 rl1 (PostR.le (r := f b S1) p l1)
    | _ => exact False.elim p
  | exc x S1 => rw [q] at p; exact p
  | bad => rw [q] at p; exact p
theorem se_and {rest : List Expr} (ha : SE G X W a ma) (hb : SE G X W (.BoolOp .And (b :: rest) pos) mb) : SE G X W (.BoolOp .And (a :: b :: rest) pos) (eAnd ma mb) := by
  refine se_of (pe_and ha hb) fun σ H Q ρ σs S rl re p => ?_
  refine ⟨ρ, σs, S, rl, re, tof_go (σ := σ) rl p fun ρ1 H1 S1 c l1 rl1 p1 => ⟨c, rfl, ?_⟩⟩
  cases c with
  | true => exact ⟨ρ1, σs, S1, rl1, re.mono l1, p1⟩
  | false => exact post_ok (S := S1) p1 rl1 (.bl false)
theorem se_not (ha : SE G X W a ma) : SE G X W (.UnaryOp .Not a pos) (eNot ma) := by
  refine se_of (pe_not ha) fun σ H Q ρ σs S rl re p => ?_
  exact ⟨ρ, σs, S, rl, re, tof_go (σ := σ) rl p fun ρ1 H1 S1 c l1 rl1 p1 => ⟨c, rfl, post_ok (S := S1) p1 rl1 (.bl _)⟩⟩
theorem sa_nil : SA G X W [] (aList []) := PA.weak pa_nil fun σ H Q ⟨ρ, σs, S, rl, re, p⟩ => p ρ H [] Le.refl rl .nil
theorem sa_cons {ms : List ME} (ha : SE G X W e m) (hr : SA G X W es (aList ms)) (hs : starEach (e :: es) X.env = (false, eval e X.env) :: starEach es X.env := by rfl) : SA G X W (e :: es) (aList (m :: ms)) := by
  refine PA.weak (pa_cons ha hr hs) fun σ H Q ⟨ρ, σs, S, rl, re, p⟩ => ?_
  refine ⟨ρ, σs, S, rl, re, PostR.bind (R := RV G) (r := m σs S) p fun ρ1 H1 S1 d v l1 rl1 rv1 p1 => ?_⟩
  refine ⟨ρ1, σs, S1, rl1, re.mono l1, PostR.bind (R := RVs G) (r := aList ms σs S1) p1 fun ρ2 H2 S2 ds vs l2 rl2 rv2 p2 => ?_⟩
  exact p2 ρ2 H2 _ Le.refl rl2 (.cons (rv1.mono l2) rv2)
theorem aList_len : ∀ {ms : List ME} {σs : En} {S S' : Store} {ds : List D}, aList ms σs S = .ok ds S' → ds.length = ms.length
  | [], σs, S, S', ds, h => by unfold aList at h; cases h; rfl
  | m :: ms, σs, S, S', ds, h => by
    unfold aList at h
    cases q : m σs S with
    | ok d S1 =>
      rw [q] at h
      cases q2 : aList ms σs S1 with
      | ok ds' S2 =>
        rw [Res.bind_ok, q2] at h
        cases h
        simp [aList_len q2]
      | exc x S2 => rw [Res.bind_ok, q2] at h; cases h
      | bad => rw [Res.bind_ok, q2] at h; cases h
    | exc x S1 => rw [q] at h; cases h
    | bad => rw [q] at h; cases h
theorem list_go {ms : List ME} {σ : St} {H : Hp} {ρ : Wd} {σs : En} {S : Store} {Q : VK} {E : XK} {f : List D → Store → Res D} (p : Post G ρ H ((aList ms σs S).bind f) Q E) {Q1 : List V → Hp → Prop}
    (k : ∀ ρ1 H1 S1 ds xs, Le G ρ H ρ1 H1 → Rl G ρ1 S1 H1 → RVs G ρ1 H1 ds xs → xs.length = ms.length → Post G ρ1 H1 (f ds S1) Q E → Q1 xs H1) : PostA G ρ H (aList ms σs S) Q1 E := by
  cases q : aList ms σs S with
  | ok ds S1 =>
    rw [q] at p
    exact fun ρ1 H1 xs l1 rl1 rv1 => k ρ1 H1 S1 ds xs l1 rl1 rv1 (by rw [← rv1.length, aList_len q]) (PostR.le (r := f ds S1) p l1)
  | exc x S1 => rw [q] at p; exact p
  | bad => rw [q] at p; exact p
theorem se_tup {ms : List ME} {x1} (h : SA G X W es (aList ms)) (hz : ms.length ≤ sizeLine := by first | decide | (rw [sizeLine_eq]; decide)) : SE G X W (.Tuple es x1 pos) (eTup ms) := by
  refine se_of (pe_tup h) fun σ H Q ρ σs S rl re p => ?_
  refine ⟨ρ, σs, S, rl, re, list_go (σ := σ) p fun ρ1 H1 S1 ds xs l1 rl1 rv1 hl p1 => ⟨by rw [hl]; exact hz, fun a hn => post_new p1 rl1 hn (.tup upd_same (rv1.mono (Le.new hn)))⟩⟩
theorem se_lst {ms : List ME} (h : SA G X W es (aList ms)) (hz : ms.length ≤ sizeLine := by first | decide | (rw [sizeLine_eq]; decide)) : SE G X W (.List es pos) (eLst ms) := by
  refine se_of (pe_lst h) fun σ H Q ρ σs S rl re p => ?_
  refine ⟨ρ, σs, S, rl, re, list_go (σ := σ) p fun ρ1 H1 S1 ds xs l1 rl1 rv1 hl p1 => ⟨by rw [hl]; exact hz, fun a hn => ?_⟩⟩
  exact p1 (ρ1.push a) _ _ (Le.push hn) (rl1.push hn (.lst rv1)) (RV.new rl1)
theorem se_lv {ms : List ME} (h : SA G X W es (aList ms)) (hz : ms.length ≤ sizeLine := by first | decide | (rw [sizeLine_eq]; decide)) : SE G X W (.List es pos) (eLv ms) := by
  refine se_of (pe_lst h) fun σ H Q ρ σs S rl re p => ?_
  refine ⟨ρ, σs, S, rl, re, list_go (σ := σ) p fun ρ1 H1 S1 ds xs l1 rl1 rv1 hl p1 => ⟨by rw [hl]; exact hz, fun a hn => post_new p1 rl1 hn (.lv (rl1.no hn) upd_same (rv1.mono (Le.new hn)))⟩⟩
/-- a built-in function, a built-in class by its name -/
theorem se_callB {x : Str} {id : String} {f : List D → Store → Res D} {p : Pos} {ma : MA} (hc : FnS G X W (.builtin id) f) (hg : Gl X x) (hm : X.mg x = none) (hv : bootBuiltins x = some (.builtin id)) (ha : SA G X W (e :: es) ma) (hn : x ≠ "__name__" := by decide) (hdb : (x == ("__debug__" : Str)) = false := by decide)
    (he : starEach (e :: es) X.env = (false, eval e X.env) :: starEach es X.env := by rfl) (hpl : (backTo pos (starEach es X.env)).any (·.1) = false := by rfl) : SE G X W (.Call (.Name x p) (e :: es) [] pos) (eFn f ma) := by
  refine ⟨fun pins s σ H Q I ⟨ρ, σs, S, rl, re, p⟩ => ?_⟩
  refine wpAny_Call_Name_kw (ld_blt I hg hm hv ?_ hn hdb)
  exact PyProof.Rows.callWith_builtin1 (ha.go I rl re p fun us s1 xs H1 ρ1 S1 ds I1 rx l1 rl1 re1 rv1 p1 => hc pins s1 σ H1 xs us Q ρ1 S1 ds I1 rx rl1 rv1 p1) he hpl
theorem se_callTy {x : Str} {T : String} {f : List D → Store → Res D} {p : Pos} {ma : MA} (hc : FnS G X W (.type T) f) (hg : Gl X x) (hm : X.mg x = none) (hv : bootBuiltins x = some (.type T)) (ha : SA G X W (e :: es) ma) (hn : x ≠ "__name__" := by decide) (hdb : (x == ("__debug__" : Str)) = false := by decide)
    (he : starEach (e :: es) X.env = (false, eval e X.env) :: starEach es X.env := by rfl) (hpl : (backTo pos (starEach es X.env)).any (·.1) = false := by rfl) : SE G X W (.Call (.Name x p) (e :: es) [] pos) (eFn f ma) := by
  refine ⟨fun pins s σ H Q I ⟨ρ, σs, S, rl, re, p⟩ => ?_⟩
  refine wpAny_Call_Name_kw (ld_blt I hg hm hv ?_ hn hdb)
  exact PyProof.Rows.callWith_type1 (ha.go I rl re p fun us s1 xs H1 ρ1 S1 ds I1 rx l1 rl1 re1 rv1 p1 => hc pins s1 σ H1 xs us Q ρ1 S1 ds I1 rx rl1 rv1 p1) he hpl
end
end L2.Mi

set_option Elab.async false
set_option linter.all false
set_option maxRecDepth 100000
set_option maxHeartbeats 4000000
namespace L2.Mi
open PySem PySem.Spec PyProof.Rows

section
variable {G : Gx} {X : Cx} {W : WX} {st : Stmt} {sts rest : List Stmt} {a b e : Expr} {ma mb m : ME} {t : MT} {k l : MS} {pos : Pos}
theorem ss_of {tr : TS} (h : PS X st tr) (i : ∀ σ H Dn ρ σs S, Rl G ρ S H → RE G ρ H σs σ → PostS G ρ H (k σs S) Dn W → tr Dn σ H) : SS G X W st k :=
  PS.weak h fun Dn σ H ⟨ρ, σs, S, rl, re, p⟩ => i σ H Dn ρ σs S rl re p
theorem sss_nil : SSs G X W [] sNext := PSs.weak pss_nil fun Dn σ H ⟨ρ, σs, S, rl, re, p⟩ => p ρ H σ Le.refl rl re
theorem sss_cons (h1 : SS G X W st k) (h2 : SSs G X W rest l) : SSs G X W (st :: rest) (sSeq k l) := by
  refine PSs.weak (pss_cons h1 h2) fun Dn σ H ⟨ρ, σs, S, rl, re, p⟩ => ?_
  refine ⟨ρ, σs, S, rl, re, ?_⟩
  unfold sSeq at p
  cases q : k σs S with
  | nx σ1 S1 =>
    rw [q] at p
    exact fun ρ1 H1 σ2 l1 rl1 re1 => ⟨ρ1, σ1, S1, rl1, re1, PostS.le (r := l σ1 S1) p l1⟩
  | rt d S1 => rw [q] at p; exact p
  | bk σ1 S1 => rw [q] at p; exact p
  | ct σ1 S1 => rw [q] at p; exact p
  | exc x σ1 S1 => rw [q] at p; exact p
  | bad => rw [q] at p; exact p
theorem sss_one (h1 : SS G X W st k) : SSs G X W [st] k := pss_one h1
/-- an expression's run inside a statement -/
theorem do_go {σ : St} {H : Hp} {ρ : Wd} {σs : En} {S : Store} {Dn : Ends} {f : D → Store → RS} (re : RE G ρ H σs σ) (p : PostS G ρ H (match m σs S with | .ok d S1 => f d S1 | .exc x S1 => .exc x σs S1 | .bad => .bad) Dn W) {Q1 : VK}
    (k : ∀ ρ1 H1 S1 d v, Le G ρ H ρ1 H1 → Rl G ρ1 S1 H1 → RV G ρ1 H1 d v → PostS G ρ1 H1 (f d S1) Dn W → Q1 v H1) : Post G ρ H (m σs S) Q1 (EW W σ) := by
  cases q : m σs S with
  | ok d S1 =>
    rw [q] at p
    exact fun ρ1 H1 v l1 rl1 rv1 => k ρ1 H1 S1 d v l1 rl1 rv1 (PostS.le (r := f d S1) p l1)
  | exc x S1 =>
    rw [q] at p
    exact fun ρ1 H1 c dd l1 rl1 rx => p ρ1 H1 σ c dd l1 rl1 (re.mono l1) rx
  | bad => rw [q] at p; exact p
theorem ss_ret (he : SE G X W e m) : SS G X W (.Return (some e) pos) (sRet m) := by
  refine ss_of (ps_ret he) fun σ H Dn ρ σs S rl re p => ?_
  exact ⟨ρ, σs, S, rl, re, do_go re p fun ρ1 H1 S1 d v l1 rl1 rv1 p1 => p1 ρ1 H1 v Le.refl rl1 rv1⟩
theorem ss_if {c : Expr} {sa sb : List Stmt} (hc : ST G X W c t) (ha : SSs G X W sa k) (hb : SSs G X W sb l) : SS G X W (.If c sa sb pos) (sIf t k l) := by
  refine ss_of (ps_if hc ha hb) fun σ H Dn ρ σs S rl re p => ?_
  refine ⟨ρ, σs, S, rl, re, ?_⟩
  unfold sIf at p
  cases q : t σs S with
  | ok c1 S1 =>
    rw [q] at p
    intro ρ1 H1 b l1 rl1 e
    subst e
    cases c1 with
    | true => exact ⟨ρ1, σs, S1, rl1, re.mono l1, PostS.le (r := k σs S1) p l1⟩
    | false => exact ⟨ρ1, σs, S1, rl1, re.mono l1, PostS.le (r := l σs S1) p l1⟩
  | exc x S1 =>
    rw [q] at p
    exact fun ρ1 H1 c dd l1 rl1 rx => p ρ1 H1 σ c dd l1 rl1 (re.mono l1) rx
  | bad => rw [q] at p; exact p

def PostG (G : Gx) (ρ : Wd) (H : Hp) (r : Res En) (Q : St → Hp → Prop) : Prop := match r with
  | .ok σs S => ∀ ρ' H' σ', Le G ρ H ρ' H' → Rl G ρ' S H' → RE G ρ' H' σs σ' → Q σ' H'
  | _ => False
def tmg (G : Gx) (g : MG) : TG := fun v σ H Q => ∃ ρ σs S d, Rl G ρ S H ∧ RE G ρ H σs σ ∧ RV G ρ H d v ∧ PostG G ρ H (g d σs S) Q
def tmgs (G : Gx) (gs : List MG) : TGs := fun vs σ H Q => ∃ ρ σs S ds, Rl G ρ S H ∧ RE G ρ H σs σ ∧ RVs G ρ H ds vs ∧ PostG G ρ H (gAll gs ds σs S) Q
abbrev SG (G : Gx) (X : Cx) (e : Expr) (g : MG) : Prop := PG X e (tmg G g)
abbrev SGs (G : Gx) (X : Cx) (es : List Expr) (gs : List MG) : Prop := PGs X es (tmgs G gs)
theorem PostG.le {ρ ρ' : Wd} {H H' : Hp} {r : Res En} {Q : St → Hp → Prop} (p : PostG G ρ H r Q) (l : Le G ρ H ρ' H') : PostG G ρ' H' r Q := by
  cases r with
  | ok d S => exact fun ρ2 H2 v l2 rl h => p ρ2 H2 v (l.trans l2) rl h
  | exc x S => exact p
  | bad => exact p
theorem PG.weak {e : Expr} {t t' : TG} (h : PG X e t) (i : ∀ v σ H Q, t' v σ H Q → t v σ H Q) : PG X e t' := ⟨fun pins s σ H v u Q I r q => h.run pins s σ H v u Q I r (i _ _ _ _ q)⟩
theorem PGs.weak {es : List Expr} {t t' : TGs} (h : PGs X es t) (i : ∀ v σ H Q, t' v σ H Q → t v σ H Q) : PGs X es t' := ⟨fun pins s σ H v u Q I r q => h.run pins s σ H v u Q I r (i _ _ _ _ q)⟩
theorem sg_name {i : Nat} {x : Str} (hN : X.N.Nodup) (hi : X.N[i]? = some x) (hx : Loc X.env.scope x) (hf : X.fn x = true ∨ X.env.scope.names.lookup x = some .local := by first | exact .inl rfl | exact .inr rfl | assumption) : SG G X (.Name x pos) (gName i) :=
  PG.weak (pg_name hN hi hx hf) fun v σ H Q ⟨ρ, σs, S, d, rl, re, rv, p⟩ => p ρ H _ Le.refl rl (re.set i rv)
theorem sgs_nil : SGs G X [] [] := PGs.weak pgs_nil fun vs σ H Q ⟨ρ, σs, S, ds, rl, re, rv, p⟩ => by
  cases rv with
  | nil => exact ⟨rfl, p ρ H σ Le.refl rl re⟩
  | cons _ _ => exact False.elim p
theorem sgs_cons {es : List Expr} {g : MG} {gs : List MG} (h1 : SG G X e g) (h2 : SGs G X es gs) (hs : (assignEach (e :: es) X.env).map (·.2) = assign e X.env :: (assignEach es X.env).map (·.2) := by rfl) : SGs G X (e :: es) (g :: gs) := by
  refine PGs.weak (pgs_cons h1 h2 hs) fun vs σ H Q ⟨ρ, σs, S, ds, rl, re, rv, p⟩ => ?_
  cases rv with
  | nil => exact False.elim p
  | @cons d ds v vs r1 r2 =>
    refine ⟨v, vs, rfl, ρ, σs, S, d, rl, re, r1, ?_⟩
    have p' : PostG G ρ H ((g d σs S).bind fun σ1 S1 => gAll gs ds σ1 S1) Q := p
    cases q : g d σs S with
    | ok σ1 S1 =>
      rw [q] at p'
      exact fun ρ1 H1 σ2 l1 rl1 re1 => ⟨ρ1, σ1, S1, ds, rl1, re1, r2.mono l1, PostG.le (r := gAll gs ds σ1 S1) p' l1⟩
    | exc x S1 => rw [q] at p'; exact p'
    | bad => rw [q] at p'; exact p'
theorem gAll_len : ∀ {gs : List MG} {ds : List D} {σs σ' : En} {S S' : Store}, gAll gs ds σs S = .ok σ' S' → ds.length = gs.length
  | [], [], _, _, _, _, _ => rfl
  | [], _ :: _, _, _, _, _, h => by cases h
  | _ :: _, [], _, _, _, _, h => by cases h
  | g :: gs, d :: ds, σs, σ', S, S', h => by
    have h' : ((g d σs S).bind fun σ1 S1 => gAll gs ds σ1 S1) = .ok σ' S' := h
    cases q : g d σs S with
    | ok σ1 S1 => rw [q] at h'; simp [gAll_len h']
    | exc x S1 => rw [q] at h'; cases h'
    | bad => rw [q] at h'; cases h'
theorem sg_tup {es : List Expr} {j : Nat} {gs : List MG} (c : Cc G X W) (h : SGs G X es gs) (hn : (assignEach es X.env).length = gs.length := by rfl) (hst : (assignEach es X.env).findIdx? (·.1) = none := by rfl) : SG G X (.Tuple es j pos) (gTup gs) := by
  refine PG.weak (pg_tup (n := gs.length) c.calm h hn hst) fun v σ H Q ⟨ρ, σs, S, d, rl, re, rv, p⟩ => ?_
  cases rv with
  | @tup ds a xs ht hr =>
    have p' : PostG G ρ H (gAll gs ds σs S) Q := p
    refine ⟨a, xs, rfl, SqT.of ht, ?_, ρ, σs, S, ds, rl, re, hr, p'⟩
    cases q : gAll gs ds σs S with
    | ok σ1 S1 => rw [← hr.length]; exact gAll_len q
    | exc x S1 => rw [q] at p'; exact p'.elim
    | bad => rw [q] at p'; exact p'.elim
  | _ => exact False.elim p
/-- o[i] = v -/
def StS (G : Gx) (X : Cx) (f : D → D → D → Store → Option Store) : Prop :=
  ∀ (pins : List (Addr × Obj)) (s : Shared) (σ : St) (H : Hp) (x y z : V) (v u w : Value) (Q : Hp → Prop) (ρ : Wd) (S S' : Store) (d1 d2 d3 : D), Inv X pins σ H s → RelV x v → RelV y u → RelV z w → Rl G ρ S H → RV G ρ H d1 x → RV G ρ H d2 y → RV G ρ H d3 z →
    f d1 d2 d3 S = some S' → (∀ ρ' H', Le G ρ H ρ' H' → Rl G ρ' S' H' → Q H') → wpAny (model X.prog X.w) X.A (setItem v u w) (fun _ s' => ∃ H', Inv X pins σ H' s' ∧ Q H') X.xe s
def gSub (mo mi : ME) (f : D → D → D → Store → Option Store) : MG := fun d σ S => match (mo σ S).bind fun o S1 => (mi σ S1).bind fun i S2 => (match f o i d S2 with | some S3 => Res.ok () S3 | none => .bad) with
  | .ok _ S3 => .ok σ S3
  | _ => .bad
theorem sg_sub {o i : Expr} {mo mi : ME} {f : D → D → D → Store → Option Store} (ho : SE G X W o mo) (hi : SE G X W i mi) (hs : StS G X f)
    (ha : ∀ v, assign (.Subscript o i pos) X.env v = (do
      let ov ← holding [v] (eval o X.env)
      let iv ← holding [v, ov] (eval i X.env)
      standAt pos
      holding [v, ov, iv] (setItem ov iv v)
      release [v, ov, iv] []) := by intro _; rfl) : SG G X (.Subscript o i pos) (gSub mo mi f) := by
  refine ⟨fun pins s σ H v u Q I r ⟨ρ, σs, S, d, rl, re, rv, p⟩ => ?_⟩
  rw [ha]
  have p0 : PostR (α := Unit) (β := Unit) G (fun _ _ _ _ => True) ρ H ((mo σs S).bind fun o S1 => (mi σs S1).bind fun i S2 => (match f o i d S2 with | some S3 => Res.ok () S3 | none => .bad)) (fun _ H' => Q σ H') (EW W σ) := by
    unfold gSub at p
    cases q : ((mo σs S).bind fun o S1 => (mi σs S1).bind fun i S2 => (match f o i d S2 with | some S3 => Res.ok () S3 | none => .bad)) with
    | ok x S3 => rw [q] at p; exact fun ρ1 H1 _ l1 rl1 _ => p ρ1 H1 σ l1 rl1 (re.mono l1)
    | exc x S3 => rw [q] at p; exact p.elim
    | bad => rw [q] at p; exact p.elim
  refine wpAny_bind (wpAny_holding (ho.go I rl re p0 fun ov s1 x H1 ρ1 S1 d1 I1 r1 l1 rl1 re1 rv1 p1 => ?_))
  refine wpAny_bind (wpAny_holding (hi.go I1 rl1 re1 p1 fun iv s2 y H2 ρ2 S2 d2 I2 r2 l2 rl2 re2 rv2 p2 => ?_))
  cases q : f d1 d2 d S2 with
  | none => rw [q] at p2; exact False.elim p2
  | some S3 =>
    rw [q] at p2
    refine wpAny_bind (wpAny_standAt (wpAny_bind (wpAny_holding (thn (hs pins s2 σ H2 x y v ov iv u (fun H3 => Q σ H3) ρ2 S2 S3 d1 d2 d I2 r1 r2 r rl2 (rv1.mono l2) rv2 (rv.mono (l1.trans l2)) q (fun ρ3 H3 l3 rl3 => p2 ρ3 H3 () l3 rl3 trivial)) fun _ s3 ⟨H3, I3, q3⟩ => ?_))))
    exact wpAny_release ⟨σ, H3, I3, q3⟩
/-- target = value -/
theorem asg_go {g : MG} {σ : St} {H : Hp} {ρ : Wd} {σs : En} {S : Store} {Dn : Ends} (rl : Rl G ρ S H) (re : RE G ρ H σs σ) (p : PostS G ρ H (sAsg m g σs S) Dn W) : tm G W m σ H fun x H1 => tmg G g x σ H1 Dn.nx := by
  refine ⟨ρ, σs, S, rl, re, do_go (f := fun d S1 => match g d σs S1 with | .ok σ2 S2 => .nx σ2 S2 | _ => .bad) re p fun ρ1 H1 S1 d v l1 rl1 rv1 p1 => ⟨ρ1, σs, S1, d, rl1, re.mono l1, rv1, ?_⟩⟩
  cases q : g d σs S1 with
  | ok σ2 S2 => simp only [q] at p1; exact p1
  | exc x S2 => simp only [q] at p1; exact p1
  | bad => simp only [q] at p1; exact p1
theorem ss_asg {tg : Expr} {g : MG} (he : SE G X W e m) (hg : SG G X tg g) (hs : swapsWithSole [tg] e pos.line X.env = pure false := by rfl) (hw : swappedStores [tg] e X.env = pure none := by rfl)
    (h1 : (assignEach [tg] X.env).map (·.2) = [assign tg X.env] := by rfl) : SS G X W (.Assign [tg] e pos) (sAsg m g) :=
  ss_of (ps_asg he hg hs hw h1) fun σ H Dn ρ σs S rl re p => asg_go rl re p
theorem ss_set {i : Nat} {x : Str} {pos' : Pos} (hN : X.N.Nodup) (hi : X.N[i]? = some x) (hx : Loc X.env.scope x) (he : SE G X W e m) (hs : swapsWith e (some (.Name x pos')) pos.line X.env = pure false := by rfl) (hf : X.fn x = true ∨ X.env.scope.names.lookup x = some .local := by first | exact .inl rfl | exact .inr rfl | assumption) :
    SS G X W (.Assign [.Name x pos'] e pos) (sSet i m) := by
  refine ss_of (ps_set hN hi hx he hs hf) fun σ H Dn ρ σs S rl re p => ?_
  refine ⟨ρ, σs, S, rl, re, do_go re p fun ρ1 H1 S1 d v l1 rl1 rv1 p1 => p1 ρ1 H1 _ Le.refl rl1 ((re.mono l1).set i rv1)⟩
/-- what is locked stays -/
def Fz (H H' : Hp) : Prop := ∀ a o u, H a = some (.frz o u) → H' a = some (.frz o u)
/-- an iterator of HandS and a source -/
def JR (G : Gx) (ρ0 : Wd) (H0 : Hp) (src : Src) (J : It) : Prop := ∀ ρ S H, Mv G ρ0 H0 ρ H → Fz H0 H → Rl G ρ S H → ∀ i,
  (∀ d, src i S = some (some d) → J.go i H ∧ ∀ x H', J.yld i H x H' → Le G ρ H ρ H' ∧ Rl G ρ S H' ∧ RV G ρ H' d x) ∧ (src i S = some none → J.stop i H)
abbrev PostI (G : Gx) := PostR (α := Src) (β := It) G (JR G)
def tmi (G : Gx) (W : WX) (m : MI) : TI := fun σ H R => ∃ ρ σs S, Rl G ρ S H ∧ RE G ρ H σs σ ∧ PostI G ρ H (m σs S) R (fun c d H' => W c d σ H')
abbrev SI (G : Gx) (X : Cx) (W : WX) (tg iter : Expr) (m : MI) : Prop := PI X tg iter (tmi G W m)
theorem JR.le {ρ0 ρ1 : Wd} {H0 H1 : Hp} {src : Src} {J : It} (h : JR G ρ0 H0 src J) (l : Le G ρ0 H0 ρ1 H1) : JR G ρ1 H1 src J := fun ρ S H l' kz rl i => h ρ S H (l.mv.trans l') (fun a o u q => kz a o u (l.kz a o u q)) rl i
theorem PI.weak {tg iter : Expr} {w w' : TI} (h : PI X tg iter w) (i : ∀ σ H R, w' σ H R → w σ H R) : PI X tg iter w' := ⟨fun pins s σ H R I q => h.run pins s σ H R I (i _ _ _ q)⟩
theorem ss_for {tg iter : Expr} {body : List Stmt} {mi : MI} {g : MG} (n : Nat) (cc : Cc G X W) (hi : SI G X W tg iter mi) (hg : SG G X tg g) (hb : SSs G X W body k) (hs : ∀ x, foldedSetIterable iter X.env x = pure x := by intro _; rfl) :
    SS G X W (.For tg iter body [] pos) (sFor mi g k n) := by
  refine ss_of (ps_for cc.hp cc.calm hi hg hb hs) fun σ H Dn ρ σs S rl re p => ?_
  refine ⟨ρ, σs, S, rl, re, ?_⟩
  unfold sFor at p
  cases q : mi σs S with
  | exc x S1 =>
    simp only [q] at p
    exact fun ρ1 H1 c dd l1 rl1 rx => p ρ1 H1 σ c dd l1 rl1 (re.mono l1) rx
  | bad => simp only [q] at p; exact p
  | ok src S1 =>
    simp only [q] at p
    intro ρ1 H1 J l1 rl1 jr
    refine ⟨fun i m σ H => ∃ ρ σs S, Le G ρ1 H1 ρ H ∧ Rl G ρ S H ∧ RE G ρ H σs σ ∧ PostS G ρ H (forGo src g k m i σs S) Dn W, ⟨n, ρ1, σs, S1, Le.refl, rl1, re.mono l1, PostS.le p l1⟩, ?_⟩
    rintro i m σ H ⟨ρ, σs, S, l0, rl, re, p⟩
    cases m with
    | zero => exact p.elim
    | succ m =>
      unfold forGo at p
      obtain ⟨j1, j2⟩ := jr ρ S H l0.mv l0.kz rl i
      cases q : src i S with
      | none => simp only [q] at p; exact p.elim
      | some o =>
        cases o with
        | none => simp only [q] at p; exact .inl ⟨j2 q, p ρ H σ Le.refl rl re⟩
        | some d =>
          simp only [q] at p
          obtain ⟨go, yl⟩ := j1 d q
          refine .inr ⟨go, fun σ' H' => ∃ ρ σs S, Le G ρ1 H1 ρ H' ∧ Rl G ρ S H' ∧ RE G ρ H' σs σ' ∧ PostS G ρ H' (forGo src g k m (i + 1) σs S) Dn W, fun σ' H' w => ⟨m, Nat.lt_succ_self m, w⟩, fun x H' y => ?_⟩
          obtain ⟨l2, rl2, rv2⟩ := yl x H' y
          refine ⟨ρ, σs, S, d, rl2, re.mono l2, rv2, ?_⟩
          cases q1 : g d σs S with
          | exc x S2 => simp only [q1] at p; exact p
          | bad => simp only [q1] at p; exact p
          | ok σ2 S2 =>
            simp only [q1] at p
            intro ρ3 H3 σ3 l3 rl3 re3
            refine ⟨ρ3, σ2, S2, rl3, re3, ?_⟩
            have l03 : Le G ρ H ρ3 H3 := l2.trans l3
            cases q2 : k σ2 S2 with
            | nx σ4 S4 => simp only [q2] at p; exact fun ρ4 H4 σ' l4 rl4 re4 => ⟨ρ4, σ4, S4, l0.trans (l03.trans l4), rl4, re4, PostS.le p (l03.trans l4)⟩
            | ct σ4 S4 => simp only [q2] at p; exact fun ρ4 H4 σ' l4 rl4 re4 => ⟨ρ4, σ4, S4, l0.trans (l03.trans l4), rl4, re4, PostS.le p (l03.trans l4)⟩
            | bk σ4 S4 => simp only [q2] at p; exact fun ρ4 H4 σ' l4 rl4 re4 => p ρ4 H4 σ' (l03.trans l4) rl4 re4
            | rt d S4 => simp only [q2] at p; exact fun ρ4 H4 v l4 rl4 re4 => p ρ4 H4 v (l03.trans l4) rl4 re4
            | exc x σ4 S4 => simp only [q2] at p; exact fun ρ4 H4 σ' c dd l4 rl4 re4 rx => p ρ4 H4 σ' c dd (l03.trans l4) rl4 re4 rx
            | bad => simp only [q2] at p; exact p
end
end L2.Mi

set_option Elab.async false
set_option linter.all false
set_option maxRecDepth 100000
set_option maxHeartbeats 4000000
namespace L2.Mi
open PySem PySem.Spec PyProof.Rows

abbrev lim : Nat := 1000000
theorem lim_le {n : Nat} (h : n ≤ lim) : n ≤ sizeLine := by rw [sizeLine_eq]; unfold lim at h; omega
theorem lim_lt {n : Nat} (h : n < lim) : n < sizeLine := by rw [sizeLine_eq]; unfold lim at h; omega

def tupD : D → Option (List D)
  | .tup ds => some ds
  | .kt ds => some ds
  | _ => none
section
variable {G : Gx} {X : Cx} {W : WX} {ρ : Wd} {S : Store} {H : Hp} {d : D} {x : V} {ds : List D}
theorem sqT_written {K : PySem.W.Frag} {a : Addr} {xs : List V} (h : SqT K (fun _ => none) a xs) : SqT K H a xs := by
  rcases h with (h | ⟨o, h⟩) | h
  · cases h
  · cases h
  · exact .inr h
theorem tupD_rel (rv : RV G ρ H d x) (h : tupD d = some ds) : ∃ a xs, x = .ref a ∧ SqT G.K H a xs ∧ RVs G ρ H ds xs := by
  cases rv with
  | tup ht hr => cases h; exact ⟨_, _, rfl, SqT.of ht, hr⟩
  | kt ht hr => cases h; exact ⟨_, _, rfl, sqT_written ht, hr⟩
  | _ => cases h
theorem listAt_rel (rl : Rl G ρ S H) (rv : RV G ρ H d x) (h : listAt S d = some ds) : ∃ a xs, x = .ref a ∧ SqL G.K H a xs ∧ RVs G ρ H ds xs := by
  cases rv with
  | lv n ht hr => cases h; exact ⟨_, _, rfl, SqL.of ht, hr⟩
  | fl ht hr => cases h; exact ⟨_, _, rfl, ht.sq, hr⟩
  | @ref i a hi =>
    unfold listAt at h
    cases q : S.get i with
    | none => simp only [q] at h; cases h
    | some o =>
      obtain ⟨u, hu, ro⟩ := rl.at hi q
      cases ro with
      | lst r => simp only [q] at h; cases h; exact ⟨a, _, rfl, SqL.of hu, r⟩
      | lck r =>
        cases r with
        | lst r => simp only [q] at h; cases h; exact ⟨a, _, rfl, .inl (.inr ⟨_, hu⟩), r⟩
        | _ => simp only [q] at h; cases h
      | _ => simp only [q] at h; cases h
  | _ => cases h
theorem RVs.atI {ds : List D} {xs : List V} {i : Int} {d : D} (r : RVs G ρ H ds xs) (h : L2.atI ds i = some d) : ∃ v, L2.atI xs i = some v ∧ RV G ρ H d v := by
  unfold L2.atI at h ⊢
  rw [← r.length]
  cases q : ixN ds.length i with
  | none => rw [q] at h; cases h
  | some j =>
    rw [q] at h
    exact RVs.get r h
end

def intOp (c : Int → Int → Bool) (g : Int → Int → D) : D → D → Store → Res D := fun x y S => match x, y with
  | .int i, .int j => if c i j then .ok (g i j) S else .bad
  | _, _ => .bad
def mulOk (i j : Int) : Bool := (decide (-(2 ^ 64) < i) && decide (i < 2 ^ 64)) || (decide (-(2 ^ 64) < j) && decide (j < 2 ^ 64)) || decide (i.natAbs.log2 + j.natAbs.log2 < 1000000)
def divOk (j : Int) : Bool := decide (0 < j) && decide (j.natAbs.log2 < 9000)
def powOk (i j : Int) : Bool := decide (0 ≤ j) && decide (j ≤ 1000000) && decide (i.natAbs < 2 ^ 64)
section
variable {G : Gx} {X : Cx} {W : WX}
theorem intOp_go {c : Int → Int → Bool} {g : Int → Int → D} {ρ : Wd} {S : Store} {H : Hp} {d1 d2 : D} {x y : V} {Q : VK} {E : XK} (r1 : RV G ρ H d1 x) (r2 : RV G ρ H d2 y) (p : Post G ρ H (intOp c g d1 d2 S) Q E) :
    ∃ i j, x = .int i ∧ y = .int j ∧ c i j = true ∧ Post G ρ H (.ok (g i j) S) Q E := by
  cases r1 with
  | int i =>
    cases r2 with
    | int j =>
      unfold intOp at p
      by_cases h : c i j = true
      · simp only [h, if_true] at p
        exact ⟨i, j, rfl, rfl, h, p⟩
      · simp only [h] at p
        exact False.elim p
    | _ => exact False.elim p
  | _ => exact False.elim p
theorem ops_int {F : Value → Value → Sem Value} {c : Int → Int → Bool} {C : Int → Int → Prop} {g : Int → Int → Int} (ho : OpR X F (rI C fun i j => .int (g i j))) (hc : ∀ i j, c i j = true → C i j) : OpS G X W F (intOp c fun i j => .int (g i j)) :=
  OpS.of ho fun ρ S H d1 d2 x y Q E rl r1 r2 p => by
    obtain ⟨i, j, h1, h2, h3, p⟩ := intOp_go r1 r2 p
    exact ⟨i, j, h1, h2, hc i j h3, post_ok p rl (.int _)⟩
theorem ops_cmp0 {F : Value → Value → Sem Value} {g : Int → Int → Bool} (ho : OpR X F (rI0 fun i j => .bl (g i j))) : OpS G X W F (intOp (fun _ _ => true) fun i j => .bl (g i j)) :=
  OpS.of ho fun ρ S H d1 d2 x y Q E rl r1 r2 p => by
    obtain ⟨i, j, h1, h2, h3, p⟩ := intOp_go r1 r2 p
    exact ⟨i, j, h1, h2, post_ok p rl (.bl _)⟩
end
def divI : D → D → Store → Res D := intOp (fun _ j => divOk j) fun i j => .int (i / j)
def modI : D → D → Store → Res D := intOp (fun _ j => decide (0 < j)) fun i j => .int (i % j)
def powI : D → D → Store → Res D := intOp powOk fun i j => .int (i ^ j.toNat)
def ltI : D → D → Store → Res D := intOp (fun _ _ => true) fun i j => .bl (decide (i < j))
def gtI : D → D → Store → Res D := intOp (fun _ _ => true) fun i j => .bl (decide (j < i))
def geI : D → D → Store → Res D := intOp (fun _ _ => true) fun i j => .bl (decide (j ≤ i))
def noOwn : D → D → Store → Res D := fun _ _ _ => .bad
/-- a + b -/
def addF (own : D → D → Store → Res D) : D → D → Store → Res D := fun x y S => match x, y with
  | .int i, .int j => .ok (.int (i + j)) S
  | .str a, .str b => if a.length + b.length ≤ lim then .ok (.str (a ++ b)) S else .bad
  | .tup a, .tup b => if a.length + b.length ≤ lim then .ok (.tup (a ++ b)) S else .bad
  | .lv a, .lv b => if a.length + b.length ≤ lim then .ok (.lv (a ++ b)) S else .bad
  | .ref a, _ => own (.ref a) y S
  | _, _ => .bad
/-- a * b -/
def mulF (own : D → D → Store → Res D) : D → D → Store → Res D := fun x y S => match x, y with
  | .int i, .int j => if mulOk i j then .ok (.int (i * j)) S else .bad
  | .lv a, .int k => if decide (0 ≤ k) && decide (k ≤ 1000) && decide (a.length ≤ 1000) then .ok (.lv (List.replicate k.toNat a).flatten) S else .bad
  | .ref a, _ => own (.ref a) y S
  | _, _ => .bad
section
variable {G : Gx} {X : Cx} {W : WX}
theorem noOwn_ok {F : Value → Value → Sem Value} : OpS G X W F noOwn := fun _ _ _ _ _ _ _ _ _ _ _ _ _ _ _ _ _ _ _ p => p.elim
theorem ops_mod : OpS G X W (binaryOp .Mod) modI := ops_int op_mod fun i j h => by simpa using h
theorem ops_div : OpS G X W (binaryOp .FloorDiv) divI := ops_int op_fdivW fun i j h => by
  unfold divOk at h
  simp only [Bool.and_eq_true, decide_eq_true_eq] at h
  exact h
theorem ops_pow : OpS G X W (binaryOp .Pow) powI := ops_int op_pow fun i j h => by
  unfold powOk at h
  simp only [Bool.and_eq_true, decide_eq_true_eq] at h
  exact ⟨h.1.1, h.1.2, h.2⟩
theorem ops_lt : OpS G X W (compareOp .Lt) ltI := ops_cmp0 op_lt
theorem ops_gt : OpS G X W (compareOp .Gt) gtI := ops_cmp0 op_gt
theorem ops_ge : OpS G X W (compareOp .GtE) geI := ops_cmp0 op_ge
theorem str_append (a b : List Nat) : (⟨a.toArray⟩ : Str) ++ ⟨b.toArray⟩ = ⟨(a ++ b).toArray⟩ := by
  show Str.mk (a.toArray ++ b.toArray) = _
  simp
theorem str_len (a : List Nat) : (⟨a.toArray⟩ : Str).length = a.length := by
  show a.toArray.size = _
  simp
theorem ops_add {own : D → D → Store → Res D} (cc : Cc G X W) (ho : OpS G X W (binaryOp .Add) own) : OpS G X W (binaryOp .Add) (addF own) := by
  intro pins s σ H x y v u Q ρ S d1 d2 I rx ry rl r1 r2 p
  cases r1 with
  | int i =>
    cases r2 with
    | int j => exact op_add pins s σ H _ _ v u Q I rx ry ⟨i, j, rfl, rfl, post_ok p rl (.int _)⟩
    | _ => exact p.elim
  | str a =>
    cases r2 with
    | str b =>
      unfold addF at p
      by_cases hl : a.length + b.length ≤ lim
      · simp only [hl, if_true] at p
        refine op_add_str pins s σ H _ _ v u Q I rx ry ⟨_, _, rfl, rfl, by rw [str_len, str_len]; exact lim_le hl, ?_⟩
        rw [str_append]
        exact post_ok p rl (.str _)
      · simp only [hl, if_false] at p
        exact p.elim
    | _ => exact p.elim
  | @tup as a xs ha hr =>
    cases r2 with
    | @tup bs b ys hb hs =>
      unfold addF at p
      by_cases hl : as.length + bs.length ≤ lim
      · simp only [hl, if_true] at p
        refine op_catA pins s σ H _ _ v u Q I rx ry ⟨a, b, xs, ys, rfl, rfl, SqT.of ha, SqT.of hb, by rw [← hr.length, ← hs.length]; exact lim_le hl, fun e => ?_, fun _ e => ?_, fun _ _ q hq => ?_⟩
        · subst e
          cases hr
          exact post_ok p rl (.tup hb hs)
        · subst e
          cases hs
          exact post_ok p rl (.tup ha (by rw [List.append_nil]; exact hr))
        · exact post_new p rl hq (.tup upd_same ((hr.append hs).mono (Le.new hq)))
      · simp only [hl, if_false] at p
        exact p.elim
    | _ => exact p.elim
  | @lv as a xs na ha hr =>
    cases r2 with
    | @lv bs b ys nb hb hs =>
      unfold addF at p
      by_cases hl : as.length + bs.length ≤ lim
      · simp only [hl, if_true] at p
        refine op_cat pins s σ H _ _ v u Q I rx ry ⟨a, b, xs, ys, rfl, rfl, ha, hb, by rw [← hr.length, ← hs.length]; exact lim_le hl, fun q hq => ?_⟩
        exact post_new p rl hq (.lv (rl.no hq) upd_same ((hr.append hs).mono (Le.new hq)))
      · simp only [hl, if_false] at p
        exact p.elim
    | _ => exact p.elim
  | ref h => exact ho pins s σ H _ _ v u Q ρ S _ d2 I rx ry rl (.ref h) r2 p
  | _ => exact p.elim
theorem ops_mul {own : D → D → Store → Res D} (ho : OpS G X W (binaryOp .Mult) own) : OpS G X W (binaryOp .Mult) (mulF own) := by
  intro pins s σ H x y v u Q ρ S d1 d2 I rx ry rl r1 r2 p
  cases r1 with
  | int i =>
    cases r2 with
    | int j =>
      unfold mulF at p
      by_cases h : mulOk i j = true
      · simp only [h, if_true] at p
        have h' := h
        unfold mulOk at h'
        simp only [Bool.or_eq_true, Bool.and_eq_true, decide_eq_true_eq] at h'
        rcases h' with h' | h'
        · exact op_mul pins s σ H _ _ v u Q I rx ry ⟨i, j, rfl, rfl, h', post_ok p rl (.int _)⟩
        · exact op_mulW pins s σ H _ _ v u Q I rx ry ⟨i, j, rfl, rfl, h', post_ok p rl (.int _)⟩
      · simp only [h] at p
        exact p.elim
    | _ => exact p.elim
  | @lv as a xs na ha hr =>
    cases r2 with
    | int k =>
      unfold mulF at p
      by_cases h : (decide (0 ≤ k) && decide (k ≤ 1000) && decide (as.length ≤ 1000)) = true
      · simp only [h, if_true] at p
        simp only [Bool.and_eq_true, decide_eq_true_eq] at h
        have hl := hr.length
        have hz : xs.length * k.toNat ≤ sizeLine := by
          rw [sizeLine_eq]
          have : xs.length * k.toNat ≤ 1000 * 1000 := Nat.mul_le_mul (by omega) (by omega)
          omega
        refine op_rep pins s σ H _ _ v u Q I rx ry ⟨a, k, xs, rfl, rfl, ha, by omega, by omega, hz, fun q hq => ?_⟩
        refine post_new p rl hq (.lv (rl.no hq) upd_same ?_)
        have rep : ∀ n, RVs G ρ H (List.replicate n as).flatten (List.replicate n xs).flatten := fun n => by
          induction n with
          | zero => exact .nil
          | succ n ih => rw [List.replicate_succ, List.replicate_succ]; exact hr.append ih
        exact (rep k.toNat).mono (Le.new hq)
      · simp only [h] at p
        exact p.elim
    | _ => exact p.elim
  | ref h => exact ho pins s σ H _ _ v u Q ρ S _ d2 I rx ry rl (.ref h) r2 p
  | _ => exact p.elim
end

def mapO {α β : Type} (f : α → Option β) : List α → Option (List β)
  | [] => some []
  | a :: as => match f a, mapO f as with
    | some b, some bs => some (b :: bs)
    | _, _ => none
def dat : Nat → Store → D → Option PyData
  | _, _, .non => some .none
  | _, _, .bl b => some (.bool b)
  | _, _, .int i => some (.int i)
  | _, _, .str x => some (.str ⟨x.toArray⟩)
  | n + 1, S, .tup ds => (mapO (dat n S) ds).map .tuple
  | n + 1, S, .kt ds => (mapO (dat n S) ds).map .tuple
  | n + 1, S, .lv ds => (mapO (dat n S) ds).map .list
  | n + 1, S, .ref a => (match listAt S (.ref a) with | some ds => (mapO (dat n S) ds).map .list | none => none)
  | _, _, _ => none
section
variable {G : Gx} {X : Cx} {W : WX} {ρ : Wd} {S : Store} {H : Hp}
theorem mapO_rel {f : D → Option PyData} (h : ∀ d x e, RV G ρ H d x → f d = some e → Dp G.K H x e) : ∀ {ds : List D} {xs : List V} {es : List PyData}, RVs G ρ H ds xs → mapO f ds = some es → DpAll G.K H xs es
  | _, _, _, .nil, e => by cases e; exact .nil
  | d :: ds, x :: xs, es, .cons r rs, e => by
    unfold mapO at e
    cases q1 : f d with
    | none => simp only [q1] at e; cases e
    | some b =>
      cases q2 : mapO f ds with
      | none => simp only [q1, q2] at e; cases e
      | some bs =>
        simp only [q1, q2] at e
        cases e
        exact .cons (h d x b r q1) (mapO_rel h rs q2)
theorem dat_rel (rl : Rl G ρ S H) : ∀ (n : Nat) (d : D) (x : V) (e : PyData), RV G ρ H d x → dat n S d = some e → Dp G.K H x e := by
  intro n
  induction n with
  | zero =>
    intro d x e r h
    cases r with
    | non => cases h; exact .non
    | bl b => cases h; exact .bl b
    | int i => cases h; exact .int i
    | str x => cases h; exact .str _
    | _ => cases h
  | succ n ih =>
    intro d x e r h
    have seqT : ∀ {ds : List D} {a : Addr} {xs : List V}, SqT G.K H a xs → RVs G ρ H ds xs → (mapO (dat n S) ds).map PyData.tuple = some e → Dp G.K H (.ref a) e := fun {ds a xs} ht hr h => by
      cases q : mapO (dat n S) ds with
      | none => rw [q] at h; cases h
      | some es => rw [q] at h; cases h; exact .tup ht (mapO_rel ih hr q)
    have seqL : ∀ {ds : List D} {a : Addr} {xs : List V}, SqL G.K H a xs → RVs G ρ H ds xs → (mapO (dat n S) ds).map PyData.list = some e → Dp G.K H (.ref a) e := fun {ds a xs} ht hr h => by
      cases q : mapO (dat n S) ds with
      | none => rw [q] at h; cases h
      | some es => rw [q] at h; cases h; exact .lst ht (mapO_rel ih hr q)
    cases r with
    | non => cases h; exact .non
    | bl b => cases h; exact .bl b
    | int i => cases h; exact .int i
    | str x => cases h; exact .str _
    | ty n => cases h
    | tup ht hr => exact seqT (SqT.of ht) hr h
    | kt ht hr => exact seqT (sqT_written ht) hr h
    | lv hn ht hr => exact seqL (SqL.of ht) hr h
    | @ref i a hi =>
      unfold dat at h
      cases q : listAt S (.ref i) with
      | none => simp only [q] at h; cases h
      | some ds =>
        simp only [q] at h
        obtain ⟨b, xs, e1, hq, hr⟩ := listAt_rel rl (.ref hi) q
        cases e1
        exact seqL hq hr h
    | _ => cases h
end
/-- a == b, a != b of data; own objects by own -/
def eqF (own : D → D → Store → Res D) : D → D → Store → Res D := fun x y S => match dat 64 S x, dat 64 S y with
  | some a, some b => if SeqAt.shaped a && SeqAt.shaped b then .ok (.bl (PyData.eqv a b)) S else .bad
  | _, _ => own x y S
def neF (own : D → D → Store → Res D) : D → D → Store → Res D := fun x y S => match dat 64 S x, dat 64 S y with
  | some a, some b => if SeqAt.shaped a && SeqAt.shaped b then .ok (.bl (!PyData.eqv a b)) S else .bad
  | _, _ => own x y S
section
variable {G : Gx} {X : Cx} {W : WX}
theorem ops_eq {own : D → D → Store → Res D} (cc : Cc G X W) (hu : X.A.units + 64 < cLine) (ho : OpS G X W (compareOp .Eq) own) : OpS G X W (compareOp .Eq) (eqF own) := by
  intro pins s σ H x y v u Q ρ S d1 d2 I rx ry rl r1 r2 p
  unfold eqF at p
  cases q1 : dat 64 S d1 with
  | none => simp only [q1] at p; exact ho pins s σ H x y v u Q ρ S d1 d2 I rx ry rl r1 r2 p
  | some a =>
    cases q2 : dat 64 S d2 with
    | none => simp only [q1, q2] at p; exact ho pins s σ H x y v u Q ρ S d1 d2 I rx ry rl r1 r2 p
    | some b =>
      simp only [q1, q2] at p
      by_cases h : (SeqAt.shaped a && SeqAt.shaped b) = true
      · simp only [h, if_true] at p
        rw [Bool.and_eq_true] at h
        refine op_eqD hu pins s σ H x y v u Q I rx ry ⟨a, b, ?_, ?_, h.1, h.2, post_ok p rl (.bl _)⟩
        · rw [cc.k]; exact dat_rel rl 64 d1 x a r1 q1
        · rw [cc.k]; exact dat_rel rl 64 d2 y b r2 q2
      · simp only [h] at p
        exact p.elim
theorem ops_ne {own : D → D → Store → Res D} (cc : Cc G X W) (hu : X.A.units + 64 < cLine) (ho : OpS G X W (compareOp .NotEq) own) : OpS G X W (compareOp .NotEq) (neF own) := by
  intro pins s σ H x y v u Q ρ S d1 d2 I rx ry rl r1 r2 p
  unfold neF at p
  cases q1 : dat 64 S d1 with
  | none => simp only [q1] at p; exact ho pins s σ H x y v u Q ρ S d1 d2 I rx ry rl r1 r2 p
  | some a =>
    cases q2 : dat 64 S d2 with
    | none => simp only [q1, q2] at p; exact ho pins s σ H x y v u Q ρ S d1 d2 I rx ry rl r1 r2 p
    | some b =>
      simp only [q1, q2] at p
      by_cases h : (SeqAt.shaped a && SeqAt.shaped b) = true
      · simp only [h, if_true] at p
        rw [Bool.and_eq_true] at h
        refine op_neD hu pins s σ H x y v u Q I rx ry ⟨a, b, ?_, ?_, h.1, h.2, post_ok p rl (.bl _)⟩
        · rw [cc.k]; exact dat_rel rl 64 d1 x a r1 q1
        · rw [cc.k]; exact dat_rel rl 64 d2 y b r2 q2
      · simp only [h] at p
        exact p.elim
end
end L2.Mi

set_option Elab.async false
set_option linter.all false
set_option maxRecDepth 100000
set_option maxHeartbeats 4000000
namespace L2.Mi
open PySem PySem.Spec PyProof.Rows

def IxS (G : Gx) (X : Cx) (W : WX) (f : D → D → Store → Res D) : Prop :=
  ∀ (value slice : Expr) (pins : List (Addr × Obj)) (s : Shared) (σ : St) (H : Hp) (x y : V) (v u : Value) (Q : VK) (ρ : Wd) (S : Store) (d1 d2 : D), Inv X pins σ H s → RelV x v → RelV y u → Rl G ρ S H → RV G ρ H d1 x → RV G ρ H d2 y →
    Post G ρ H (f d1 d2 S) Q (EW W σ) → subscripted slice false v u = operate [v, u] (getItem v u) → wpAny (model X.prog X.w) X.A (subscriptTail value slice v u) (EP X pins σ Q) X.xe s
/-- an item of a tuple, a list, a text -/
def itemF : D → D → Store → Res D := fun x y S => match y with
  | .int i => (match tupD x with
    | some ds => (match L2.atI ds i with | some d => .ok d S | none => .bad)
    | none => (match listAt S x with
      | some ds => (match L2.atI ds i with | some d => .ok d S | none => .bad)
      | none => (match x with
        | .str l => if l.length ≤ lim then (match L2.atI l i with | some c => .ok (.str [c]) S | none => .bad) else .bad
        | _ => .bad)))
  | _ => .bad
section
variable {G : Gx} {X : Cx} {W : WX} {a b e : Expr} {ma mb m : ME} {pos : Pos}
theorem IxS.of {f : D → D → Store → Res D} {r : R2} (ho : IxR X r) (h : ∀ ρ S H d1 d2 x y Q E, Rl G ρ S H → RV G ρ H d1 x → RV G ρ H d2 y → Post G ρ H (f d1 d2 S) Q E → r x y H Q) : IxS G X W f :=
  fun value slice pins s σ H x y v u Q ρ S d1 d2 I rx ry rl r1 r2 p hs => ho value slice pins s σ H x y v u Q I rx ry (h ρ S H d1 d2 x y Q _ rl r1 r2 p) hs
theorem se_ix {f : D → D → Store → Res D} (hr : IxS G X W f) (ha : SE G X W a ma) (hb : SE G X W b mb) (hs : PlainIx b := by exact fun _ _ => rfl) : SE G X W (.Subscript a b pos) (eBin f ma mb) :=
  ⟨fun pins s σ H Q I ⟨ρ, σs, S, rl, re, p⟩ => Subscript_ (ha.go I rl re p fun v s1 x H1 ρ1 S1 d I1 rx l1 rl1 re1 rv1 p1 => hb.go I1 rl1 re1 p1 fun u s2 y H2 ρ2 S2 e I2 ry l2 rl2 re2 rv2 p2 =>
    hr a b pins s2 σ H2 x y v u Q ρ2 S2 d e I2 rx ry rl2 (rv1.mono l2) rv2 p2 (hs _ _))⟩
theorem ixs_item (cc : Cc G X W) : IxS G X W itemF := by
  intro value slice pins s σ H x y v u Q ρ S d1 d2 I rx ry rl r1 r2 p hs
  cases r2 with
  | int i =>
    unfold itemF at p
    cases q1 : tupD d1 with
    | some ds =>
      obtain ⟨a, xs, rfl, ht, hr⟩ := tupD_rel r1 q1
      cases q2 : L2.atI ds i with
      | none => simp only [q1, q2] at p; exact p.elim
      | some d =>
        simp only [q1, q2] at p
        obtain ⟨z, h1, h2⟩ := hr.atI q2
        exact ix_tup value slice pins s σ H _ _ v u Q I rx ry ⟨a, xs, i, z, rfl, rfl, by rw [cc.k]; exact ht, h1, post_ok p rl h2⟩ hs
    | none =>
      cases q3 : listAt S d1 with
      | some ds =>
        obtain ⟨a, xs, rfl, ht, hr⟩ := listAt_rel rl r1 q3
        cases q2 : L2.atI ds i with
        | none => simp only [q1, q2, q3] at p; exact p.elim
        | some d =>
          simp only [q1, q2, q3] at p
          obtain ⟨z, h1, h2⟩ := hr.atI q2
          exact ix_list value slice pins s σ H _ _ v u Q I rx ry ⟨a, xs, i, z, rfl, rfl, by rw [cc.k]; exact ht, h1, post_ok p rl h2⟩ hs
      | none =>
        cases r1 with
        | str l =>
          simp only [q1, q3] at p
          by_cases hl : l.length ≤ lim
          · simp only [hl, if_true] at p
            cases q2 : L2.atI l i with
            | none => simp only [q2] at p; exact p.elim
            | some c =>
              simp only [q2] at p
              refine ix_str value slice pins s σ H _ _ v u Q I rx ry ⟨⟨l.toArray⟩, i, c, rfl, rfl, by rw [str_len]; exact lim_le hl, ?_, post_ok p rl (.str [c])⟩ hs
              simpa using q2
          · simp only [hl, if_false] at p
            exact p.elim
        | _ => simp only [q1, q3] at p; exact p.elim
  | _ => exact p.elim
end

def cutD {α : Type} (xs : List α) (lo hi : Option Int) : List α := (xs.drop (HT.sIx xs.length 0 lo)).take (HT.sIx xs.length xs.length hi - HT.sIx xs.length 0 lo)
end L2.Mi

set_option Elab.async false
set_option linter.all false
set_option maxRecDepth 100000
set_option maxHeartbeats 4000000
namespace L2.Mi
open PySem PySem.Spec PyProof.Rows

def lenF (ds : List D) (S : Store) : Res D := match ds with
  | [.str l] => if l.length ≤ lim then .ok (.int l.length) S else .bad
  | [.tup xs] => .ok (.int xs.length) S
  | [.kt xs] => .ok (.int xs.length) S
  | [d] => (match listAt S d with | some xs => .ok (.int xs.length) S | none => .bad)
  | _ => .bad
def absF (ds : List D) (S : Store) : Res D := match ds with
  | [.int i] => .ok (.int (if i < 0 then -i else i)) S
  | _ => .bad
def intF (ds : List D) (S : Store) : Res D := match ds with
  | [.int i] => .ok (.int i) S
  | [.bl k] => .ok (.int (if k then 1 else 0)) S
  | _ => .bad
/-- a list of the items of a list or a tuple: one that is changed later, one that is not -/
def seqAt (S : Store) (d : D) : Option (List D) := match tupD d with | some ds => some ds | none => listAt S d
section
variable {G : Gx} {X : Cx} {W : WX}
theorem rvs1 {ρ : Wd} {H : Hp} {d : D} {xs : List V} (r : RVs G ρ H [d] xs) : ∃ x, xs = [x] ∧ RV G ρ H d x := by
  cases r with
  | cons h t => cases t; exact ⟨_, rfl, h⟩
theorem rvs2 {ρ : Wd} {H : Hp} {d e : D} {xs : List V} (r : RVs G ρ H [d, e] xs) : ∃ x y, xs = [x, y] ∧ RV G ρ H d x ∧ RV G ρ H e y := by
  cases r with
  | cons h t =>
    cases t with
    | cons h' t' => cases t'; exact ⟨_, _, rfl, h, h'⟩
theorem fns_len (cc : Cc G X W) : FnS G X W (.builtin "len") lenF := FnS.of call_len fun ρ S H ds xs Q E rl r p => by
  have seq : ∀ {d : D} {x : V} {ys : List D}, RV G ρ H d x → listAt S d = some ys → Post G ρ H (.ok (.int ys.length) S) Q E → ∃ x' n, [x] = [x'] ∧ LenV X.K x' H n ∧ Q (.int n) H := fun {d x ys} h q p => by
    obtain ⟨a, zs, rfl, hq, hr⟩ := listAt_rel rl h q
    refine ⟨_, zs.length, rfl, .inl ⟨zs, by rw [cc.k]; exact hq, rfl⟩, ?_⟩
    rw [← hr.length]
    exact post_ok p rl (.int _)
  match ds, r, p with
  | [], _, p => exact p.elim
  | _ :: _ :: _, _, p => exact (show False by unfold lenF at p; split at p <;> first | exact p | simp_all).elim
  | [d], r, p =>
    obtain ⟨x, rfl, h⟩ := rvs1 r
    cases h with
    | str l =>
      have p' : Post G ρ H (if l.length ≤ lim then .ok (.int l.length) S else .bad) Q E := p
      by_cases hl : l.length ≤ lim
      · rw [if_pos hl] at p'
        refine ⟨_, l.length, rfl, ⟨by rw [str_len]; exact lim_le hl, by rw [str_len]⟩, post_ok p' rl (.int _)⟩
      · rw [if_neg hl] at p'
        exact p'.elim
    | @tup ds a zs ht hr =>
      refine ⟨_, zs.length, rfl, .inr ⟨zs, SqT.of ht, rfl⟩, ?_⟩
      rw [← hr.length]
      exact post_ok (S := S) p rl (.int _)
    | @kt ds a zs ht hr =>
      refine ⟨_, zs.length, rfl, .inr ⟨zs, by rw [cc.k]; exact sqT_written ht, rfl⟩, ?_⟩
      rw [← hr.length]
      exact post_ok (S := S) p rl (.int _)
    | lv n ht hr => exact seq (.lv n ht hr) rfl p
    | fl ht hr => exact seq (.fl ht hr) rfl p
    | @ref i a hi =>
      have p' : Post G ρ H (match listAt S (.ref i) with | some ys => .ok (.int ys.length) S | none => .bad) Q E := p
      cases q : listAt S (.ref i) with
      | none => rw [q] at p'; exact p'.elim
      | some ys => rw [q] at p'; exact seq (.ref hi) q p'
    | _ => exact False.elim p
theorem fns_abs : FnS G X W (.builtin "abs") absF := FnS.of call_abs fun ρ S H ds xs Q E rl r p => by
  unfold absF at p
  split at p
  · obtain ⟨x, rfl, h⟩ := rvs1 r
    cases h
    exact ⟨_, rfl, post_ok p rl (.int _)⟩
  · exact p.elim
theorem fns_int : FnS G X W (.type "int") intF := FnS.of call_int1 fun ρ S H ds xs Q E rl r p => by
  unfold intF at p
  split at p
  · obtain ⟨x, rfl, h⟩ := rvs1 r
    cases h
    exact .inl ⟨_, rfl, post_ok p rl (.int _)⟩
  · obtain ⟨x, rfl, h⟩ := rvs1 r
    cases h
    exact .inr ⟨_, rfl, post_ok p rl (.int _)⟩
  · exact p.elim
theorem seqAt_rel {ρ : Wd} {S : Store} {H : Hp} {d : D} {x : V} {ds : List D} (rl : Rl G ρ S H) (rv : RV G ρ H d x) (h : seqAt S d = some ds) : ∃ a xs, x = .ref a ∧ (SqL G.K H a xs ∨ SqT G.K H a xs) ∧ RVs G ρ H ds xs := by
  unfold seqAt at h
  cases q : tupD d with
  | some es =>
    rw [q] at h
    cases h
    obtain ⟨a, xs, e, ht, hr⟩ := tupD_rel rv q
    exact ⟨a, xs, e, .inr ht, hr⟩
  | none =>
    rw [q] at h
    obtain ⟨a, xs, e, ht, hr⟩ := listAt_rel rl rv h
    exact ⟨a, xs, e, .inl ht, hr⟩
variable {e tg : Expr} {m : ME} {pos p : Pos}
theorem si_of {wi : TI} {mi : MI} {iter : Expr} (h : PI X tg iter wi) (i : ∀ σ H R ρ σs S, Rl G ρ S H → RE G ρ H σs σ → PostI G ρ H (mi σs S) R (EW W σ) → wi σ H R) : SI G X W tg iter mi :=
  PI.weak h fun σ H R ⟨ρ, σs, S, rl, re, p⟩ => i σ H R ρ σs S rl re p
theorem jr_list {ρ0 : Wd} {H0 : Hp} {d : D} {a : Addr} (rv : RV G ρ0 H0 d (.ref a)) : JR G ρ0 H0 (fun k S' => (listAt S' d).map fun ds => ds[k]?) (Itl G.K a) := by
  intro ρ S H l kz rl i
  refine ⟨fun e h => ?_, fun h => ?_⟩
  · cases q : listAt S d with
    | none => simp only [q] at h; cases h
    | some ds =>
      simp only [q, Option.map_some, Option.some.injEq] at h
      obtain ⟨b, xs, e1, hq, hr⟩ := listAt_rel rl (rv.move l) q
      cases e1
      obtain ⟨x, h1, h2⟩ := hr.get h
      refine ⟨⟨xs, x, hq, h1⟩, fun y H' hy => ?_⟩
      obtain ⟨e2, hy⟩ := hy
      subst e2
      have := hy xs hq
      rw [h1] at this
      cases this
      exact ⟨Le.refl, rl, h2⟩
  · cases q : listAt S d with
    | none => simp only [q] at h; cases h
    | some ds =>
      simp only [q, Option.map_some, Option.some.injEq] at h
      obtain ⟨b, xs, e1, hq, hr⟩ := listAt_rel rl (rv.move l) q
      cases e1
      exact ⟨xs, hq, by rw [← hr.length]; exact List.getElem?_eq_none_iff.mp h⟩
theorem si_list (cc : Cc G X W) (h : SE G X W e m) : SI G X W tg e (iList m) := by
  refine si_of (pi_list h) fun σ H R ρ σs S rl re p => ?_
  refine ⟨ρ, σs, S, rl, re, PostR.bind (R := RV G) p fun ρ1 H1 S1 d x l1 rl1 rv1 p1 => ?_⟩
  cases q : listAt S1 d with
  | none => simp only [q] at p1; exact p1.elim
  | some ds =>
    simp only [q] at p1
    obtain ⟨a, xs, rfl, hq, hr⟩ := listAt_rel rl1 rv1 q
    refine ⟨a, rfl, ⟨xs, by rw [cc.k]; exact hq⟩, p1 ρ1 H1 _ Le.refl rl1 ?_⟩
    rw [cc.k]
    exact jr_list rv1
theorem jr_tup {ρ0 : Wd} {H0 : Hp} {ds : List D} {d : D} {a : Addr} (rv : RV G ρ0 H0 d (.ref a)) (hd : tupD d = some ds) : JR G ρ0 H0 (fun k _ => some ds[k]?) (Itt G.K a) := by
  intro ρ S H l kz rl i
  obtain ⟨b, xs, e1, hq, hr⟩ := tupD_rel (rv.move l) hd
  cases e1
  refine ⟨fun e h => ?_, fun h => ?_⟩
  · obtain ⟨x, h1, h2⟩ := hr.get (Option.some.inj h)
    refine ⟨⟨xs, x, hq, h1⟩, fun y H' hy => ?_⟩
    obtain ⟨e2, hy⟩ := hy
    subst e2
    have := hy xs hq
    rw [h1] at this
    cases this
    exact ⟨Le.refl, rl, h2⟩
  · exact ⟨xs, hq, by rw [← hr.length]; exact List.getElem?_eq_none_iff.mp (Option.some.inj h)⟩
theorem si_tup (cc : Cc G X W) (h : SE G X W e m) : SI G X W tg e (iTup m) := by
  refine si_of (pi_tup h) fun σ H R ρ σs S rl re p => ?_
  refine ⟨ρ, σs, S, rl, re, PostR.bind (R := RV G) p fun ρ1 H1 S1 d x l1 rl1 rv1 p1 => ?_⟩
  have go : ∀ {ds : List D}, tupD d = some ds → PostI G ρ1 H1 (.ok (fun k _ => some ds[k]?) S1) R (EW W σ) → ∃ a, x = .ref a ∧ (∃ xs, SqT X.K H1 a xs) ∧ R (Itt X.K a) H1 := fun {ds} hd p => by
    obtain ⟨a, xs, rfl, hq, hr⟩ := tupD_rel rv1 hd
    refine ⟨a, rfl, ⟨xs, by rw [cc.k]; exact hq⟩, p ρ1 H1 _ Le.refl rl1 ?_⟩
    rw [cc.k]
    exact jr_tup rv1 hd
  cases d with
  | tup ds => exact go rfl p1
  | kt ds => exact go rfl p1
  | _ => exact False.elim p1
theorem jr_range {ρ0 : Wd} {H0 : Hp} {lo : Int} {n : Nat} : JR G ρ0 H0 (fun k _ => some (if k < n then some (.int (lo + (k : Int))) else none)) (Itr lo n) := by
  intro ρ S H l kz rl i
  by_cases hi : i < n
  · refine ⟨fun e h => ?_, fun h => ?_⟩
    · simp only [hi, if_true, Option.some.injEq] at h
      subst h
      refine ⟨hi, fun y H' hy => ?_⟩
      obtain ⟨e2, hy⟩ := hy
      subst e2 hy
      exact ⟨Le.refl, rl, .int _⟩
    · simp only [hi, if_true] at h
      cases h
  · refine ⟨fun e h => ?_, fun h => ?_⟩
    · simp only [hi, if_false] at h
      cases h
    · exact Nat.le_of_not_lt hi
theorem i62_ok {j : Int} (h : i62 j = true) : -(2 ^ 62) ≤ j ∧ j < 2 ^ 62 := by
  unfold i62 at h
  simpa using h
theorem si_range1 (h : SA G X W [e] (aList [m])) (hg : Gl X "range") (hm : X.mg "range" = none) (hs : starEach [e] X.env = [(false, eval e X.env)] := by rfl) : SI G X W tg (.Call (.Name "range" p) [e] [] pos) (iRange1 m) := by
  refine si_of (pi_range1 hg hm h hs) fun σ H R ρ σs S rl re p => ?_
  refine ⟨ρ, σs, S, rl, re, ?_⟩
  show PostA G ρ H ((m σs S).bind fun x S1 => (Res.ok [] S1).bind fun xs S2 => .ok (x :: xs) S2) _ _
  have p' : PostI G ρ H ((m σs S).bind fun d S1 => match d with
    | .int j => if i62 j then .ok (fun k _ => some (if k < j.toNat then some (.int (0 + (k : Int))) else none)) S1 else .bad
    | _ => .bad) R (EW W σ) := p
  cases q : m σs S with
  | ok d S1 =>
    rw [q] at p'
    intro ρ1 H1 vs l1 rl1 rv1
    obtain ⟨x, rfl, h1⟩ := rvs1 rv1
    cases h1 with
    | int j =>
      have p2 : PostI G ρ H (if i62 j then .ok (fun k _ => some (if k < j.toNat then some (.int (0 + (k : Int))) else none)) S1 else .bad) R (EW W σ) := p'
      by_cases hj : i62 j = true
      · rw [if_pos hj] at p2
        exact ⟨j, rfl, (i62_ok hj).1, (i62_ok hj).2, p2 ρ1 H1 _ l1 rl1 jr_range⟩
      · rw [if_neg hj] at p2
        exact p2.elim
    | _ => exact False.elim p'
  | exc x S1 => rw [q] at p'; exact p'
  | bad => rw [q] at p'; exact p'
end
end L2.Mi

set_option Elab.async false
set_option linter.all false
set_option maxRecDepth 100000
set_option maxHeartbeats 4000000
namespace L2.Mi
open PySem PySem.Spec PyProof.Rows

abbrev FN := List D → Store → Res D
def spF (G : Gx) (m : FN) (n : Nat) : Sp := fun vs H Q E => ∃ ρ S ds, vs.length = n ∧ Rl G ρ S H ∧ RVs G ρ H ds vs ∧ Post G ρ H (m ds S) Q E
/-- a def's run by its body's: n slots -/
def bodyRun (n : Nat) (ms : MS) : FN := fun ds S => match ms (ds.map some ++ List.replicate (n - ds.length) none) S with
  | .rt d S1 => .ok d S1
  | .nx _ S1 => .ok .non S1
  | .exc x _ S1 => .exc x S1
  | _ => .bad
abbrev WF (E : XK) : WX := fun c d _ H' => E c d H'
section
variable {G : Gx} {P : Program} {w : World} {mg : Str → Option Value} {base : Heap} {N ps : List Str} {x qual : Str} {params : Arguments} {body : List Stmt} {scope : Scope} {dvs : List V} {kws : List (Str × V)} {f : Addr} {fd : FuncData} {k : Nat} {ms : MS}
theorem re_start {ρ : Wd} {H : Hp} : ∀ {ds : List D} {vs : List V}, RVs G ρ H ds vs → RE G ρ H (ds.map some ++ List.replicate (N.length - ds.length) none) (start N vs) := by
  intro ds vs r
  have hl := r.length
  refine ⟨by unfold start; simp [hl], fun i d h => ?_⟩
  by_cases hi : i < ds.length
  · rw [List.getElem?_append_left (by simpa using hi), List.getElem?_map] at h
    cases q : ds[i]? with
    | none => rw [q] at h; cases h
    | some e =>
      rw [q] at h
      cases h
      obtain ⟨v, h1, h2⟩ := r.get q
      refine ⟨v, ?_, h2⟩
      unfold start
      rw [List.getElem?_append_left (by simpa [← hl] using hi), List.getElem?_map, h1]
      rfl
  · rw [List.getElem?_append_right (by simpa using hi)] at h
    obtain ⟨_, e⟩ := List.getElem?_eq_some_iff.mp h
    simp at e
theorem fnd_ok (F : FunD G.K x qual params body scope dvs kws f fd) (S : FnScope N ps scope)
    (hb : ∀ (cdv : Value) (A : Around) (outer : List Env) (s : Shared) (H : Hp) (E : XK), Room k (A.deeper (envOfC qual scope s.heap.objs.size f cdv)) →
      Cc G (cxOf (L2.CX P w) P w G.K mg base N qual scope f cdv A outer s H E) (WF E) → SSs G (cxOf (L2.CX P w) P w G.K mg base N qual scope f cdv A outer s H E) (WF E) body ms) :
    FnOk P w G.K mg base (L2.CX P w) (k + 1) f fd ps (spF G (bodyRun N.length ms) ps.length) := by
  refine F.ok S (fun vs H Q E h => ?_) (fun cdv A outer s H vs Q E hr h => ?_)
  · obtain ⟨_, _, _, h, _⟩ := h
    exact h
  · obtain ⟨ρ, St, ds, hn, rl, rv, p⟩ := h
    have cc : Cc G (cxOf (L2.CX P w) P w G.K mg base N qual scope f cdv A outer s H E) (WF E) := ⟨rfl, takes_of rfl rfl rfl rfl, passes_of rfl, rfl, S.nd⟩
    refine ⟨_, hb cdv A outer s H E hr cc, ρ, _, St, rl, re_start rv, ?_⟩
    unfold bodyRun at p
    cases q : ms (ds.map some ++ List.replicate (N.length - ds.length) none) St with
    | rt d S1 => rw [q] at p; exact p
    | nx σ1 S1 => rw [q] at p; exact fun ρ1 H1 σ' l1 rl1 re1 => p ρ1 H1 .non l1 rl1 .non
    | exc x σ1 S1 => rw [q] at p; exact fun ρ1 H1 σ' c dd l1 rl1 re1 rx => p ρ1 H1 c dd l1 rl1 rx
    | bk σ1 S1 => rw [q] at p; exact p.elim
    | ct σ1 S1 => rw [q] at p; exact p.elim
    | bad => rw [q] at p; exact p.elim
end
/-- what a callable promises: any arguments, by its run -/
def spG (G : Gx) (m : FN) : Sp := fun vs H Q E => ∃ ρ S ds, Rl G ρ S H ∧ RVs G ρ H ds vs ∧ Post G ρ H (m ds S) Q E
abbrev Cal (G : Gx) (P : Program) (w : World) (mg : Str → Option Value) (base : Heap) (k : Nat) (f : Addr) (m : FN) : Prop := FnR P w G.K mg base (L2.CX P w) k f (spG G m)
section
variable {G : Gx} {X : Cx} {W : WX} {k : Nat} {f C : Addr} {m : FN} {n : Nat} {dd : List D}
theorem run_fnRS {pins : List (Addr × Obj)} {σ : St} {H : Hp} {s : Shared} {Q : VK} {us : List Value} {vs : List V} {CX : CXT} {sp : Sp} {E : XK} (F : FnR X.prog X.w X.K X.mg X.base CX k f sp) (hr : Room k X.A) (hx : PassesAt CX X σ E)
    (I : Inv X pins σ H s) (r : Vals vs us) (h : sp vs H Q E) : wpAny (model X.prog X.w) X.A (call (.ref f) us) (EP X pins σ Q) X.xe s := by
  refine wpAny_call (codeAny_mono (F X.A X.stack s H us vs Q E hr I.env0 r h) fun r s' hq => ?_)
  cases r with
  | error e => exact hx pins H s e s' I hq
  | ok fl =>
    cases fl with
    | ret u => exact I.after hq
    | next => exact False.elim hq
    | brk => exact False.elim hq
    | cont => exact False.elim hq
theorem fns_cal (cc : Cc G X W) (F : Cal G X.prog X.w X.mg X.base k f m) (hr : Room k X.A) : FnS G X W (.ref f) m := by
  intro pins s σ H xs us Q ρ S es I r rl rv p
  have F' : FnR X.prog X.w X.K X.mg X.base (L2.CX X.prog X.w) k f (spG G m) := by rw [cc.k]; exact F
  exact run_fnRS (E := EW W σ) F' hr (passAt cc.tk σ) I r ⟨ρ, S, es, rl, rv, p⟩
end
section
variable {G : Gx} {X : Cx} {W : WX} {e o : Expr} {es : List Expr} {x name : Str} {p pos apos : Pos} {f : Addr} {m : FN} {ma : MA} {mo mv : ME}
/-- f(e, ..) -/
theorem se_call (hc : FnS G X W (.ref f) m) (hg : Gl X x) (hm : X.mg x = some (.ref f)) (hk : PySem.W.keepIn X.K (.ref f) = true) (ha : SA G X W (e :: es) ma) (hdb : (x == ("__debug__" : Str)) = false := by decide)
    (he : starEach (e :: es) X.env = (false, eval e X.env) :: starEach es X.env := by rfl) (hpl : (backTo pos (starEach es X.env)).any (·.1) = false := by rfl) : SE G X W (.Call (.Name x p) (e :: es) [] pos) (eFn m ma) := by
  refine ⟨fun pins s σ H Q I ⟨ρ, σs, S, rl, re, p⟩ => ?_⟩
  refine wpAny_Call_Name_kw (ld_glob I hg hm ?_ hdb)
  refine PySem.W.callWith_K (h₀ := X.base) I.ok.mod.kin hk (ha.go I rl re p fun us s1 xs H1 ρ1 S1 ds I1 rx l1 rl1 re1 rv1 p1 => ⟨I1.kIn, hc pins s1 σ H1 xs us Q ρ1 S1 ds I1 rx rl1 rv1 p1⟩) he hpl
theorem se_call0 (hc : FnS G X W (.ref f) m) (hg : Gl X x) (hm : X.mg x = some (.ref f)) (hk : PySem.W.keepIn X.K (.ref f) = true) (hdb : (x == ("__debug__" : Str)) = false := by decide) : SE G X W (.Call (.Name x p) [] [] pos) (eFn m (aList [])) := by
  refine ⟨fun pins s σ H Q I ⟨ρ, σs, S, rl, re, p⟩ => ?_⟩
  refine wpAny_Call_Name_kw (ld_glob I hg hm ?_ hdb)
  exact PySem.W.callWith_K0 I.kIn hk (hc pins s σ H [] [] Q ρ S [] I .nil rl .nil p)
structure MethS (G : Gx) (X : Cx) (W : WX) (name : Str) (c : Nat) (g : FN) : Prop where
  ex : ∃ C f, G.cls c = some C ∧ Cls X.K C ∧ Meth X.K C name f ∧ FnS G X W (.ref f) g
structure FieldS (G : Gx) (X : Cx) (name : Str) (c : Nat) : Prop where
  ex : ∃ C, G.cls c = some C ∧ Cls X.K C ∧ NoAttr X.K C name
/-- the getter's promise -/
structure PropS (G : Gx) (X : Cx) (name : Str) (c : Nat) (g : FN) : Prop where
  ex : ∃ C p f k, G.cls c = some C ∧ Cls X.K C ∧ PropOf X.K C name p f ∧ FnR X.prog X.w X.K X.mg X.base (L2.CX X.prog X.w) k f (spG G g) ∧ Room (k + 1) X.A
end
end L2.Mi

set_option Elab.async false
set_option linter.all false
set_option maxRecDepth 100000
set_option maxHeartbeats 4000000
namespace L2.Mi
open PySem PySem.Spec PyProof.Rows

def tagOf (S : Store) : D → Option Tag
  | .non => some (.b "NoneType")
  | .bl _ => some (.b "bool")
  | .int _ => some (.b "int")
  | .str _ => some (.b "str")
  | .tup _ => some (.b "tuple")
  | .kt _ => some (.b "tuple")
  | .lv _ => some (.b "list")
  | .dv _ _ => none
  | .ref i => (match S.get i with
    | some (.lst _) => some (.b "list")
    | some (.lck (.lst _)) => some (.b "list")
    | some (.dic _ _) => some (.b "dict")
    | some (.ins c _) => some (.o c)
    | _ => none)
  | _ => none
def clsTag : D → Option Tag
  | .ty n => some (.b n)
  | .cl c => some (.o c)
  | _ => none
def isiF (isi : Tag → Tag → Option Bool) : FN := fun ds S => match ds with
  | [d, c] => (match tagOf S d, clsTag c with
    | some t, some u => (match isi t u with | some b => .ok (.bl b) S | none => .bad)
    | _, _ => .bad)
  | _ => .bad
section
variable {G : Gx} {X : Cx} {W : WX}
/-- a built-in class as a value -/
theorem se_bltn {x : Str} {n : String} {pos : Pos} (hg : Gl X x) (hm : X.mg x = none) (hv : bootBuiltins x = some (.type n)) (hn : x ≠ "__name__" := by decide) (hd : (x == ("__debug__" : Str)) = false := by decide) : SE G X W (.Name x pos) (eC (.ty n)) :=
  se_of (pe_bltn hg hm hv (v := .ty n) rfl hn hd) fun _ _ _ _ _ _ rl _ p => post_ok p rl (.ty n)
structure OpClsS (G : Gx) (X : Cx) (W : WX) (op : Operator) (c : Nat) (g : FN) : Prop where
  ex : ∃ C f rc, G.cls c = some C ∧ PySem.W.selfFirst X.K C = true ∧ PySem.W.findIn X.K (.ref C) (PySem.dunder op.info.2) = some (some (.ref f)) ∧ PySem.W.isFn X.K (.ref f) = true ∧
    PySem.W.findIn X.K (.ref C) (dunderR op.info.2) = some rc ∧ (rc = none ∨ ∃ g : Addr, rc = some (.ref g)) ∧ (∃ fo, PySem.W.findIn X.K (.type "int") (PySem.dunder op.info.2) = some fo) ∧
    (∃ ro, PySem.W.findIn X.K (.type "int") (dunderR op.info.2) = some ro) ∧ PySem.W.subIn X.K (.type "int") (.ref C) = some false ∧ FnS G X W (.ref f) g
structure UnClsS (G : Gx) (X : Cx) (W : WX) (name : Str) (c : Nat) (g : FN) : Prop where
  ex : ∃ C f, G.cls c = some C ∧ PySem.W.findIn X.K (.ref C) name = some (some (.ref f)) ∧ PySem.W.isFn X.K (.ref f) = true ∧ FnS G X W (.ref f) g
end
end L2.Mi

set_option Elab.async false
set_option linter.all false
set_option maxRecDepth 100000
set_option maxHeartbeats 4000000
namespace L2.Mi
open PySem PySem.Spec PyProof.Rows
structure NeClsS (G : Gx) (X : Cx) (c : Nat) (g : FN) : Prop where
  ex : ∃ C f k, G.cls c = some C ∧ PySem.W.findIn X.K (.ref C) "__ne__" = some (some (.builtin "object.__ne__")) ∧ PySem.W.findIn X.K (.ref C) "__eq__" = some (some (.ref f)) ∧ PySem.W.isFn X.K (.ref f) = true ∧
    FnR X.prog X.w X.K X.mg X.base (L2.CX X.prog X.w) k f (spG G g) ∧ Room (k + 1) X.A
structure CallOS (G : Gx) (X : Cx) (c : Nat) (g : FN) : Prop where
  ex : ∃ C f k, G.cls c = some C ∧ StX.CallO X.K C f ∧ FnR X.prog X.w X.K X.mg X.base (L2.CX X.prog X.w) k f (spG G g) ∧ Room k X.A
section
variable {G : Gx} {X : Cx} {W : WX} {e fe o : Expr} {es : List Expr} {pos apos p : Pos} {ma : MA} {mf mo m : ME} {name : Str}
def MtS (G : Gx) (X : Cx) (W : WX) (id : String) (f : D → List D → Store → Res D) : Prop :=
  ∀ (pins : List (Addr × Obj)) (s : Shared) (σ : St) (H : Hp) (x : V) (xs : List V) (v : Value) (us : List Value) (Q : VK) (ρ : Wd) (S : Store) (d : D) (ds : List D), Inv X pins σ H s → RelV x v → Vals xs us → Rl G ρ S H → RV G ρ H d x → RVs G ρ H ds xs →
    Post G ρ H (f d ds S) Q (EW W σ) → wpAny (model X.prog X.w) X.A (call (.builtin id) (v :: us)) (EP X pins σ Q) X.xe s
theorem MtS.of {id : String} {f : D → List D → Store → Res D} {r : V → List V → Hp → VK → Prop} (hm : MtR X id r) (h : ∀ ρ S H d ds x xs Q E, Rl G ρ S H → RV G ρ H d x → RVs G ρ H ds xs → Post G ρ H (f d ds S) Q E → r x xs H Q) : MtS G X W id f :=
  fun pins s σ H x xs v us Q ρ S d ds I rx rs rl r1 r2 p => hm pins s σ H x xs v us Q I rx rs (h ρ S H d ds x xs Q _ rl r1 r2 p)
theorem lst_at {ρ : Wd} {S : Store} {H : Hp} {i : Nat} {a : Addr} {ds : List D} (rl : Rl G ρ S H) (hi : ρ.v[i]? = some a) (q : S.get i = some (.lst ds)) : ∃ xs, H a = some (.lst xs) ∧ RVs G ρ H ds xs := by
  obtain ⟨u, hu, ro⟩ := rl.at hi q
  cases ro with
  | lst r => exact ⟨_, hu, r⟩
/-- l[i] = v -/
def setL : D → D → D → Store → Option Store := fun o i v S => match o, i with
  | .ref a, .int k => (match S.get a with
    | some (.lst ds) => (match ixN ds.length k with | some j => some (S.set a (.lst (ds.set j v))) | none => none)
    | _ => none)
  | _, _ => none
theorem sts_list : StS G X setL := by
  intro pins s σ H x y z v u w Q ρ S S' d1 d2 d3 I rx ry rz rl r1 r2 r3 h k
  unfold setL at h
  split at h
  · rename_i i n
    cases r1 with
    | @ref i a hi =>
      cases r2 with
      | int _ =>
        cases q : S.get i with
        | none => simp only [q] at h; cases h
        | some ob =>
          cases ob with
          | lst es =>
            simp only [q] at h
            obtain ⟨us, hu, hr⟩ := lst_at rl hi q
            cases q2 : ixN es.length n with
            | none => simp only [q2] at h; cases h
            | some j =>
              simp only [q2] at h
              cases h
              refine set_list pins s σ H _ _ _ v u w Q I rx ry rz ⟨a, us, n, j, rfl, rfl, hu, by rw [← hr.length]; exact q2, ?_⟩
              exact k ρ _ (rl.leUpd hi hu trivial) (rl.set hi q hu trivial (.lst (hr.set r3 j)))
          | _ => simp only [q] at h; cases h
  · cases h
end
end L2.Mi

set_option Elab.async false
set_option linter.all false
set_option maxRecDepth 100000
set_option maxHeartbeats 4000000
namespace L2.Mi
open PySem PySem.Spec PyProof.Rows

def wipeD (σ : En) : List Nat → En
  | [] => σ
  | v :: vs => (wipeD σ vs).set v none
theorem wipe_set {σ : St} {i : Nat} {o : Option V} : ∀ {vs : List Nat}, wipe (σ.set i o) vs = if i ∈ vs then wipe σ vs else (wipe σ vs).set i o
  | [] => by simp [wipe]
  | w :: vs => by
    unfold wipe
    rw [wipe_set (vs := vs)]
    by_cases h1 : i ∈ vs
    · simp [h1]
    · by_cases h2 : i = w
      · subst h2
        simp [h1, List.set_set]
      · simp only [h1, List.mem_cons, h2, or_self, if_false]
        rw [List.set_comm _ _ h2]
theorem wipe_wipe {σ : St} : ∀ {vs : List Nat}, wipe (wipe σ vs) vs = wipe σ vs := by
  have key : ∀ (ws vs : List Nat), (∀ w ∈ ws, w ∈ vs) → wipe (wipe σ ws) vs = wipe σ vs := by
    intro ws
    induction ws with
    | nil => intro vs _; rfl
    | cons w ws ih =>
      intro vs h
      show wipe ((wipe σ ws).set w none) vs = _
      rw [wipe_set, if_pos (h w (by simp))]
      exact ih vs fun x hx => h x (by simp [hx])
  exact fun {vs} => key vs vs fun _ h => h
/-- the targets of a comprehension: a name, some names -/
inductive TgN where
  | one (i : Nat)
  | many (is : List Nat)
def TgN.slots : TgN → List Nat
  | .one i => [i]
  | .many is => is
def setAll : List Nat → List D → En → Option En
  | [], [], σ => some σ
  | i :: is, d :: ds, σ => setAll is ds (σ.set i (some d))
  | _, _, _ => none
def TgN.put (t : TgN) (d : D) (σ : En) : Option En := match t with
  | .one i => some (σ.set i (some d))
  | .many is => (match d with | .tup ds => setAll is ds σ | _ => none)
def gNames : List Nat → TGs
  | [] => gNil
  | i :: is => gCons (L2.gName i) (gNames is)
def TgN.tg (K : PySem.W.Frag) : TgN → TG
  | .one i => L2.gName i
  | .many is => L2.gTup K is.length (gNames is)
section
variable {G : Gx} {ρ : Wd} {H : Hp}
theorem RE.setNone {σs : En} {σ : St} (r : RE G ρ H σs σ) (i : Nat) : RE G ρ H (σs.set i none) (σ.set i none) := by
  refine ⟨by simp [r.len], fun j e hj => ?_⟩
  by_cases hij : i = j
  · subst hij
    by_cases hl : i < σs.length
    · rw [List.getElem?_set_self hl] at hj; cases hj
    · rw [List.getElem?_eq_none (by simpa using hl)] at hj; cases hj
  · rw [List.getElem?_set_ne hij] at hj ⊢
    exact r.get j e hj
theorem RE.wipe {σs : En} {σ : St} (r : RE G ρ H σs σ) : ∀ (vs : List Nat), RE G ρ H (wipeD σs vs) (L2.wipe σ vs)
  | [] => r
  | v :: vs => (RE.wipe r vs).setNone v
theorem names_go {Q : St → Hp → Prop} : ∀ {is : List Nat} {ds : List D} {xs : List V} {σs σ2 : En} {σ : St}, RVs G ρ H ds xs → RE G ρ H σs σ → setAll is ds σs = some σ2 → ∀ (vs : List Nat), (∀ i ∈ is, i ∈ vs) →
    (∀ σ', RE G ρ H σ2 σ' → L2.wipe σ' vs = L2.wipe σ vs → Q σ' H) → gNames is xs σ H Q
  | [], [], _, _, _, _, .nil, re, h, vs, _, k => by cases h; exact ⟨rfl, k _ re rfl⟩
  | i :: is, d :: ds, _, σs, σ2, σ, .cons r t, re, h, vs, hv, k => by
    refine ⟨_, _, rfl, ?_⟩
    show gNames is _ (σ.set i (some _)) H Q
    refine names_go t (re.set i r) h vs (fun j hj => hv j (by simp [hj])) fun σ' re' e => k σ' re' ?_
    rw [e, wipe_set, if_pos (hv i (by simp))]
  | [], _ :: _, _, _, _, _, _, _, h, _, _, _ => by cases h
  | _ :: _, [], _, _, _, _, _, _, h, _, _, _ => by cases h
theorem setAll_len : ∀ {is : List Nat} {ds : List D} {σs σ2 : En}, setAll is ds σs = some σ2 → ds.length = is.length
  | [], [], _, _, _ => rfl
  | _ :: is, _ :: ds, _, _, h => by simp [setAll_len (is := is) (ds := ds) h]
  | [], _ :: _, _, _, h => by cases h
  | _ :: _, [], _, _, h => by cases h
theorem put_go {Q : St → Hp → Prop} {K : PySem.W.Frag} {t : TgN} {d : D} {x : V} {σs σ2 : En} {σ : St} (rv : RV G ρ H d x) (re : RE G ρ H σs σ) (h : t.put d σs = some σ2) (vs : List Nat) (hv : ∀ i ∈ t.slots, i ∈ vs)
    (k : ∀ σ', RE G ρ H σ2 σ' → L2.wipe σ' vs = L2.wipe σ vs → Q σ' H) : t.tg K x σ H Q := by
  cases t with
  | one i =>
    cases h
    refine k _ (re.set i rv) ?_
    rw [wipe_set, if_pos (hv i (by simp [TgN.slots]))]
  | many is =>
    cases rv with
    | @tup ds a xs ht hr =>
      have h' : setAll is ds σs = some σ2 := h
      exact ⟨a, xs, rfl, SqT.of ht, by rw [← hr.length]; exact setAll_len h', names_go hr re h' vs hv k⟩
    | _ => cases h
end
def lcGo (src : Src) (t : TgN) (mt : MT) (me : ME) (σ : En) : Nat → Nat → List D → Store → Res (List D)
  | 0, _, _, _ => .bad
  | n + 1, k, acc, S => match src k S with
    | none => .bad
    | some none => .ok acc S
    | some (some d) => (match t.put d σ with
      | none => .bad
      | some σ2 => (match mt σ2 S with
        | .ok true S1 => (match me σ2 S1 with
          | .ok y S2 => if acc.length < lim then lcGo src t mt me σ n (k + 1) (acc ++ [y]) S2 else .bad
          | _ => .bad)
        | .ok false S1 => lcGo src t mt me σ n (k + 1) acc S1
        | _ => .bad))
/-- the list as a value that nobody changes, as one that is changed later -/
def eLcV (mi : MI) (t : TgN) (mt : MT) (me : ME) (vs : List Nat) (n : Nat) : ME := fun σ S => (mi σ S).bind fun src S1 => (lcGo src t mt me (wipeD σ vs) n 0 [] S1).bind fun ds S2 => .ok (.lv ds) S2
def tYesM : MT := fun _ S => .ok true S
abbrev W0 : WX := fun _ _ _ _ => False
section
variable {G : Gx} {X : Cx} {W : WX}
theorem cc_blk (cc : Cc G X W) {s : Shared} {H : Hp} {scope : Scope} {cenv : Env} {fp : List Addr} : Cc G (X.blk s H scope cenv fp) W0 := ⟨cc.k, takes0, PassesOwn.never, cc.calm, cc.nd⟩
theorem sts_nil : PTs X [] (tmt G W tYesM) := ⟨fun pins s σ H Q I ⟨ρ, σs, S, rl, re, p⟩ => (pts_nil).run pins s σ H Q I (p ρ H true Le.refl rl rfl)⟩
theorem Mv.unhide {ρ : Wd} {a : Addr} {H : Hp} : Mv G ⟨ρ.v, a :: ρ.h⟩ H ρ H :=
  ⟨fun _ _ h => h, fun _ _ _ h => h, fun _ _ n h => ⟨⟨n.1, fun z => n.2 (List.mem_cons_of_mem _ z)⟩, h⟩, fun _ _ n _ h => ⟨⟨n.1, fun z => n.2 (List.mem_cons_of_mem _ z)⟩, h⟩⟩
theorem Mv.hide {ρ : Wd} {a : Addr} {H : Hp} {u : HO} (hn : H a = none) : Mv G ρ H ⟨ρ.v, a :: ρ.h⟩ (L2.upd H a u) := by
  have ne : ∀ b, H b ≠ none → b ≠ a := fun b hb z => hb (by rw [z]; exact hn)
  refine ⟨fun _ _ h => h, tk_new hn, fun b xs n h => ?_, fun b v n _ h => ?_⟩
  · have hb := ne b (by rw [h]; simp)
    exact ⟨⟨n.1, by simp [hb, n.2]⟩, by rw [upd_ne hb]; exact h⟩
  · have hb := ne b (rd_some h)
    exact ⟨⟨n.1, by simp [hb, n.2]⟩, rd_new hn h⟩
theorem Rl.unhide {ρ : Wd} {a : Addr} {S : Store} {H : Hp} (r : Rl G ⟨ρ.v, a :: ρ.h⟩ S H) : Rl G ρ S H :=
  ⟨r.len, r.nd, fun b hb => r.hh b (List.mem_cons_of_mem _ hb), fun i o e => let ⟨b, u, h1, h2, h3⟩ := r.ob i o e; ⟨b, u, h1, h2, h3.move Mv.unhide⟩, r.tb⟩
theorem Rl.hide {ρ : Wd} {a : Addr} {S : Store} {H : Hp} {u : HO} (r : Rl G ρ S H) (hn : H a = none) (nu : NTb u := by trivial) : Rl G ⟨ρ.v, a :: ρ.h⟩ S (L2.upd H a u) := by
  have r1 := r.other (o := u) hn
  refine ⟨r.len, r.nd, fun b hb => ?_, fun i o e => ?_, r1.tb⟩
  · rcases List.mem_cons.mp hb with rfl | hb
    · exact ⟨(r.no hn).1, by rw [upd_same]; exact nu⟩
    · exact r1.hh b hb
  · obtain ⟨b, w, h1, h2, h3⟩ := r.ob i o e
    exact ⟨b, w, h1, by rw [upd_ne (ne_of_none h2 hn)]; exact h2, h3.move (Mv.hide hn)⟩
/-- the hidden thing is changed: values stand -/
theorem Mv.grow {ρ : Wd} {a : Addr} {H : Hp} {u w : HO} (hw : H a = some w) (nt : NoT w) (hm : a ∈ ρ.h) : Mv G ρ H ρ (L2.upd H a u) := by
  refine ⟨fun _ _ h => h, tk_upd hw nt, fun b xs n h => ⟨n, ?_⟩, fun b v n _ h => ⟨n, ?_⟩⟩
  · rw [upd_ne (show b ≠ a from fun z => n.2 (by rw [z]; exact hm))]
    exact h
  · have hb : b ≠ a := fun z => n.2 (by rw [z]; exact hm)
    rcases h with h | ⟨o, h⟩
    · exact .inl (by rw [upd_ne hb]; exact h)
    · exact .inr ⟨o, by rw [upd_ne hb]; exact h⟩
theorem Rl.grow {ρ : Wd} {a : Addr} {S : Store} {H : Hp} {u w : HO} (r : Rl G ρ S H) (hw : H a = some w) (nt : NoT w) (hm : a ∈ ρ.h) (nu : NTb u := by trivial) : Rl G ρ S (L2.upd H a u) := by
  refine ⟨r.len, r.nd, fun b hb => ⟨(r.hh b hb).1, ?_⟩, fun i o e => ?_, tabs_upd r.tb hw nt.noE⟩
  · by_cases hba : b = a
    · subst hba; rw [upd_same]; exact nu
    · rw [upd_ne hba]; exact (r.hh b hb).2
  · obtain ⟨b, v, h1, h2, h3⟩ := r.ob i o e
    refine ⟨b, v, h1, ?_, h3.move (Mv.grow hw nt hm)⟩
    rw [upd_ne (show b ≠ a from fun z => (r.hh a hm).1 (by rw [← z]; exact List.mem_of_getElem? h1))]
    exact h2
/-- a new thing at a is hidden -/
theorem Le.hide {ρ : Wd} {a : Addr} {H : Hp} {u : HO} (hn : H a = none) {ρ' : Wd} {H' : Hp} (hh : ∀ b, b ∈ ρ.h → H b ≠ none) (l : Le G ⟨ρ.v, a :: ρ.h⟩ (L2.upd H a u) ρ' H') : Le G ρ H ⟨ρ'.v, ρ.h⟩ H' := by
  have e : ρ'.h = a :: ρ.h := l.hid
  have ne : ∀ b, H b ≠ none → b ≠ a := fun b hb z => hb (by rw [z]; exact hn)
  refine ⟨l.pre, rfl, fun b xs t h => l.tk b xs t (by rw [upd_ne (ne b (by rw [h]; simp))]; exact h), fun b xs nb h => ?_, fun b v nb dk h => ?_, fun b nb h => ?_, fun b hb h => ?_, fun b o v h => l.kz b o v (by rw [upd_ne (ne b (by rw [h]; simp))]; exact h)⟩
  · have hb := ne b (by rw [h]; simp)
    exact l.kl b xs ⟨nb.1, by simp [hb, nb.2]⟩ (by rw [upd_ne hb]; exact h)
  · have hb := ne b (rd_some h)
    exact l.kp b v ⟨nb.1, by simp [hb, nb.2]⟩ dk (rd_new hn h)
  · have hb := ne b h.ne
    obtain ⟨h1, h2⟩ := l.ni b ⟨nb.1, by simp [hb, nb.2]⟩ (by rw [upd_ne hb]; exact h)
    exact ⟨⟨h1.1, nb.2⟩, h2⟩
  · have hb' := ne b h
    rw [l.kh b (List.mem_cons_of_mem _ hb) (by rw [upd_ne hb']; exact h), upd_ne hb']
/-- the hidden thing is changed -/
theorem Le.grow {ρ : Wd} {a : Addr} {H : Hp} {u u' : HO} (hn : H a = none) {ρ' : Wd} {H' : Hp} {w : HO} (hw : H' a = some w) (nt : NoT w) (nv : a ∉ ρ'.v) (l : Le G ⟨ρ.v, a :: ρ.h⟩ (L2.upd H a u) ρ' H') : Le G ⟨ρ.v, a :: ρ.h⟩ (L2.upd H a u') ρ' (L2.upd H' a u') := by
  have e : ρ'.h = a :: ρ.h := l.hid
  have up : ∀ b, b ≠ a → L2.upd H a u' b = L2.upd H a u b := fun b hb => by rw [upd_ne hb, upd_ne hb]
  have nn : ∀ b, (⟨ρ.v, a :: ρ.h⟩ : Wd).no b → b ≠ a := fun b nb z => nb.2 (by rw [z]; exact List.mem_cons_self)
  refine ⟨l.pre, l.hid, fun b xs t h => ?_, fun b xs nb h => ?_, fun b v nb dk h => ?_, fun b nb h => ?_, fun b hb h => ?_, fun b o v h => ?_⟩
  · by_cases hb : b = a
    · subst hb
      rw [upd_same] at h
      rw [upd_same]
      exact h
    · rw [up b hb] at h
      rw [upd_ne hb]
      exact l.tk b xs t h
  · rw [up b (nn b nb)] at h
    rw [upd_ne (nn b nb)]
    exact l.kl b xs nb h
  · have hb := nn b nb
    have h' : Rd (L2.upd H a u) b v := by
      rcases h with h | ⟨o, h⟩
      · exact .inl (by rw [← up b hb]; exact h)
      · exact .inr ⟨o, by rw [← up b hb]; exact h⟩
    rcases l.kp b v nb dk h' with h | ⟨o, h⟩
    · exact .inl (by rw [upd_ne hb]; exact h)
    · exact .inr ⟨o, by rw [upd_ne hb]; exact h⟩
  · have hb := nn b nb
    rw [up b hb] at h
    obtain ⟨h1, h2⟩ := l.ni b nb h
    exact ⟨h1, by rw [upd_ne hb]; exact h2⟩
  · by_cases hba : b = a
    · subst hba
      rw [upd_same, upd_same]
    · rw [up b hba] at h
      rw [upd_ne hba, up b hba]
      exact l.kh b hb h
  · by_cases hba : b = a
    · subst hba
      rw [upd_same] at h
      rw [upd_same]
      exact h
    · rw [up b hba] at h
      rw [upd_ne hba]
      exact l.kz b o v h
/-- a comprehension's loop: its own list at Dl is hidden while it grows -/
theorem lc_read {mi : MI} {t : TgN} {mt : MT} {me : ME} {vs : List Nat} {n : Nat} {K : PySem.W.Frag} (hv : ∀ i ∈ t.slots, i ∈ vs) {σ : St} {H : Hp} {Q : VK} {ρ : Wd} {σs : En} {S : Store} (fin : List D → Store → Res D) (rl : Rl G ρ S H) (re : RE G ρ H σs σ)
    (hf : ∀ (ρ' : Wd) (H' : Hp) (S' : Store) (ds : List D) (xs : List V) (Dl : Addr), Rl G ρ' S' H' → H' Dl = some (.lst xs) → ρ'.no Dl → RVs G ρ' H' ds xs → Post G ρ' H' (fin ds S') Q (EW W σ) → Q (.ref Dl) H')
    (p : Post G ρ H ((mi σs S).bind fun src S1 => (lcGo src t mt me (wipeD σs vs) n 0 [] S1).bind fin) Q (EW W σ)) :
    tLc (tmi G W mi) (t.tg K) (tmt G W0 mt) (tm G W0 me) vs σ H Q := by
  refine ⟨ρ, σs, S, rl, re, PostR.bind (R := JR G) p fun ρ1 H1 S1 src J l1 rl1 jr p1 => ?_⟩
  intro Dl hD
  have re1 := re.mono l1
  -- what stands at each turn
  refine ⟨fun i m H => ∃ ρ S acc xs, Le G ⟨ρ1.v, Dl :: ρ1.h⟩ (L2.upd H1 Dl (.lst xs)) ρ H ∧ Rl G ρ S H ∧ H Dl = some (.lst xs) ∧ RVs G ρ H acc xs ∧ Post G ρ1 H1 ((lcGo src t mt me (wipeD σs vs) m i acc S).bind fin) Q (EW W σ),
    ⟨n, ⟨ρ1.v, Dl :: ρ1.h⟩, S1, [], [], Le.refl, rl1.hide hD, upd_same, .nil, p1⟩, ?_⟩
  rintro i m H2 ⟨ρ2, S2, acc, xs, l3, rl2, hDl, ra, p2⟩
  have hid : ρ2.h = Dl :: ρ1.h := l3.hid
  have hh1 : ∀ b, b ∈ ρ1.h → H1 b ≠ none := fun b hb => (rl1.hh b hb).2.ne
  have lo : Le G ρ1 H1 ⟨ρ2.v, ρ1.h⟩ H2 := Le.hide hD hh1 l3
  have e2 : ρ2 = ⟨ρ2.v, Dl :: ρ1.h⟩ := by rw [← hid]
  have rlo : Rl G ⟨ρ2.v, ρ1.h⟩ S2 H2 := by rw [e2] at rl2; exact Rl.unhide (ρ := ⟨ρ2.v, ρ1.h⟩) rl2
  have nDv : Dl ∉ ρ2.v := (rl2.hh Dl (by rw [hid]; simp)).1
  have nDh : Dl ∉ ρ1.h := fun z => hh1 Dl z hD
  cases m with
  | zero => exact False.elim p2
  | succ m =>
    obtain ⟨j1, j2⟩ := jr ρ2 S2 H2 ((Mv.hide hD).trans l3.mv) (fun a o u q => l3.kz a o u (by rw [upd_ne (ne_of_none q hD)]; exact q)) rl2 i
    unfold lcGo at p2
    cases q : src i S2 with
    | none => simp only [q] at p2; exact False.elim p2
    | some o =>
      cases o with
      | none =>
        simp only [q] at p2
        refine .inl ⟨j2 q, hf ⟨ρ2.v, ρ1.h⟩ H2 S2 acc xs Dl rlo hDl ⟨nDv, nDh⟩ ?_ (PostR.le p2 lo)⟩
        rw [e2] at ra
        exact ra.move (Mv.unhide (ρ := ⟨ρ2.v, ρ1.h⟩))
      | some d =>
        simp only [q] at p2
        obtain ⟨go, yl⟩ := j1 d q
        refine .inr ⟨go, fun H => ∃ ρ S acc xs, Le G ⟨ρ1.v, Dl :: ρ1.h⟩ (L2.upd H1 Dl (.lst xs)) ρ H ∧ Rl G ρ S H ∧ H Dl = some (.lst xs) ∧ RVs G ρ H acc xs ∧ Post G ρ1 H1 ((lcGo src t mt me (wipeD σs vs) m (i + 1) acc S).bind fin) Q (EW W σ),
          fun H' w => ⟨m, Nat.lt_succ_self m, w⟩, fun x H3 hy => ?_⟩
        obtain ⟨l4, rl3, rv3⟩ := yl x H3 hy
        have mD : Dl ∈ ρ2.h := by rw [hid]; simp
        have hD3 : H3 Dl = some (.lst xs) := by rw [l4.kh Dl mD (by rw [hDl]; simp)]; exact hDl
        cases q1 : t.put d (wipeD σs vs) with
        | none => simp only [q1] at p2; exact False.elim p2
        | some σ2 =>
          simp only [q1] at p2
          have reh : RE G ρ2 H3 σs σ := (re1.move ((Mv.hide hD).trans l3.mv)).mono l4
          refine put_go rv3 (reh.wipe vs) q1 vs hv fun σ' re' e' => ⟨by rw [e', wipe_wipe], ρ2, σ2, S2, rl3, re', ?_⟩
          cases q2 : mt σ2 S2 with
          | exc xx S3 => simp only [q2] at p2; exact False.elim p2
          | bad => simp only [q2] at p2; exact False.elim p2
          | ok b S3 =>
            intro ρ4 H4 b' l5 rl4 eb
            subst eb
            have mD4 : Dl ∈ ρ4.h := by rw [l5.hid]; exact mD
            have hD4 : H4 Dl = some (.lst xs) := by rw [l5.kh Dl mD (by rw [hD3]; simp)]; exact hD3
            cases b with
            | false =>
              simp only [q2] at p2
              show if false = true then _ else _
              rw [if_neg Bool.false_ne_true]
              exact ⟨ρ4, S3, acc, xs, (l3.trans l4).trans l5, rl4, hD4, ra.mono (l4.trans l5), p2⟩
            | true =>
              simp only [q2] at p2
              show if true = true then _ else _
              rw [if_pos rfl]
              refine ⟨ρ4, σ2, S3, rl4, re'.mono l5, ?_⟩
              cases q3 : me σ2 S3 with
              | exc xx S4 => simp only [q3] at p2; exact False.elim p2
              | bad => simp only [q3] at p2; exact False.elim p2
              | ok y S4 =>
                simp only [q3] at p2
                intro ρ5 H5 yv l6 rl5 ry
                have mD5 : Dl ∈ ρ5.h := by rw [l6.hid]; exact mD4
                have hD5 : H5 Dl = some (.lst xs) := by rw [l6.kh Dl mD4 (by rw [hD4]; simp)]; exact hD4
                have nv5 : Dl ∉ ρ5.v := (rl5.hh Dl mD5).1
                by_cases hl : acc.length < lim
                · rw [if_pos hl] at p2
                  refine ⟨xs, hD5, by rw [← ra.length]; exact lim_lt hl, ρ5, S4, acc ++ [y], xs ++ [yv], ?_, rl5.grow hD5 trivial mD5, upd_same, ?_, p2⟩
                  · exact Le.grow hD hD5 trivial nv5 (((l3.trans l4).trans l5).trans l6)
                  · exact ((ra.mono ((l4.trans l5).trans l6)).append (.cons ry .nil)).move (Mv.grow hD5 trivial mD5)
                · rw [if_neg hl] at p2
                  exact False.elim p2
/-- [elt for t in iter if ..], nobody changes it -/
theorem se_lcv {elt tg iter : Expr} {ifs : List Expr} {scope : Scope} {own : List (Str × Nat)} {pos : Pos} {mi : MI} {t : TgN} {mt : MT} {me : ME} (n : Nat) (cc : Cc G X W) (hi : SI G X W tg iter mi) (ok : BlkOk X.N X.env.scope scope own) (hv : ∀ i ∈ t.slots, i ∈ own.map (·.2))
    (hg : ∀ (s : Shared) (H : Hp) (C : Addr) (cl : List (Str × Addr)) (fp : List Addr), PG (X.blk s H scope (compEnvC scope cl C X.env) fp) tg (t.tg X.K)) (ht : ∀ (s : Shared) (H : Hp) (C : Addr) (cl : List (Str × Addr)) (fp : List Addr), PTs (X.blk s H scope (compEnvC scope cl C X.env) fp) ifs (tmt G W0 mt))
    (he : ∀ (s : Shared) (H : Hp) (C : Addr) (cl : List (Str × Addr)) (fp : List Addr), SE G (X.blk s H scope (compEnvC scope cl C X.env) fp) W0 elt me) (hs : ∀ x, foldedSetIterable iter X.env x = pure x := by intro _; rfl) :
    SE G X W (.ListComp elt [⟨tg, iter, ifs, 0⟩] scope pos) (eLcV mi t mt me (own.map (·.2)) n) :=
  se_of (pe_lc cc.calm cc.nd hi ok hg ht he hs) fun σ H Q ρ σs S rl re p => lc_read hv (fun ds S2 => .ok (.lv ds) S2) rl re (fun ρ' H' S' ds xs Dl rl' h1 h2 h3 p' => post_ok (S := S') p' rl' (.lv h2 h1 h3)) p
end
end L2.Mi

set_option Elab.async false
set_option linter.all false
set_option maxRecDepth 100000
set_option maxHeartbeats 4000000
namespace PySem
open Sem (wp)
theorem mi_enum_new {v : Value} {o : Obj} {H : Heap → Prop} (B : Begins v o H) :
    Meets (Builtin.«enumerate.__new__» ⟨[.type "enumerate", v], []⟩) (fun _ R s => H s.heap ∧
      R (.ok (.ret (.ref (s.heap.push o).objs.size))) { s with heap := (s.heap.push o).push { cls := .type "enumerate", data := .fields #[.none, .bool false, .ref s.heap.objs.size, rawInt 0, .none, .none] } }) :=
  .of_wp fun prog w A R s h => by
    obtain ⟨hp, g, d, tk, os⟩ := s; obtain ⟨h1, h⟩ := h
    have hsub := sub_enumerate
    have q1 : ∀ {A' : Around} {E : Value → Shared → Prop} {Q : Value → Shared → Prop}, Q (.ref hp.objs.size) ⟨hp.push o, g, d, tk, os⟩ → wpAny (model prog w) A' (pyIter v) Q E ⟨hp, g, d, tk, os⟩ :=
      fun q => B.iter prog w _ _ ⟨hp, g, d, tk, os⟩ _ h1 q
    wp_walk using q1
    refine wpAny_stack_any fun st => wpAny_pure ?_
    split
    · rename_i c _ _ _ _ _
      cases (c == Value.type "enumerate")
      · wp_walk using q1
        exact ⟨_, rfl, h⟩
      · wp_walk using q1
        exact ⟨_, rfl, h⟩
    · wp_walk using q1
      exact ⟨_, rfl, h⟩
section
variable {prog : Program} {w : World} {A : Around} {E : Value → Shared → Prop} {s : Shared}
theorem mi_enum_begins {v : Value} {o : Obj} {H : Heap → Prop} {Q : Value → Shared → Prop} (B : Begins v o H) (h1 : H s.heap)
    (h : ∀ h', IsEnum h' (s.heap.objs.size + 1) s.heap.objs.size 0 .none → h'.get? s.heap.objs.size = some o → h'.objs.size = s.heap.objs.size + 2 →
      (∀ b o, s.heap.get? b = some o → h'.get? b = some o) → Q (.ref (s.heap.objs.size + 1)) { s with heap := h' }) :
    wpAny (model prog w) A (call (.type "enumerate") [v]) Q E s := by
  refine callType_new F.called_enumerate (by decide) (F.typeCall_enumerate_1 _) (F.newCall_enumerate_1 _) (fun obj => F.args_object_init_2 obj _) F.entry_enumerate_new
    (mi_enum_new B) ⟨h1, ?_⟩
  have hz : (s.heap.push o).objs.size = s.heap.objs.size + 1 := Heap.size_push ..
  show _ ∧ _
  rw [hz]
  have he : IsEnum ((s.heap.push o).push { cls := .type "enumerate", data := .fields #[.none, .bool false, .ref s.heap.objs.size, rawInt 0, .none, .none] }) (s.heap.objs.size + 1) s.heap.objs.size 0 .none := by
    have := Heap.get?_push_size (s.heap.push o) (o := { cls := .type "enumerate", data := .fields #[.none, .bool false, .ref s.heap.objs.size, rawInt 0, .none, .none] }) rfl
    rw [hz] at this; exact this
  refine ⟨⟨_, he, rfl⟩, h _ he (Heap.get?_push_of_some _ (Heap.get?_push_size _ B.free)) (by rw [Heap.size_push, hz]) fun b o x => Heap.get?_push_of_some _ (Heap.get?_push_of_some _ x)⟩
end
end PySem
namespace L2
open PySem PySem.Spec PyProof.Rows
/-- a tuple's items with their places -/
def Iet (K : PySem.W.Frag) (a : Addr) : It :=
  ⟨fun i H => ∃ (xs : List V) (x : V), SqT K H a xs ∧ xs[i]? = some x, fun i H v H' => ∃ T x, v = .ref T ∧ H T = none ∧ H' = upd H T (.tup [.int (i : Nat), x]) ∧ ∀ xs, SqT K H a xs → xs[i]? = some x, fun i H => ∃ xs : List V, SqT K H a xs ∧ xs.length = i⟩
theorem mi_turn_enum {P : Program} {w : World} {K : PySem.W.Frag} {elts : List Expr} {kk : Nat} {tpos : Pos} (a e it : Addr) :
    Turn P w K (.Tuple elts kk tpos) (Iet K a) [e, it] e (fun i h => (∃ old, IsEnum h e it ((i : Nat) : Int) old) ∧ h.IsTupleIter it a i ∧ e ≠ it ∧ a ≠ it ∧ a ≠ e) where
  mem := by simp
  obj := fun i h st b hb => by
    obtain ⟨⟨old, he⟩, ⟨o, ho, hc, hd⟩, _⟩ := st
    have e' : b = e ∨ b = it := by simpa using hb
    rcases e' with z | z
    · rw [z]; exact ⟨_, he, fun v q => nomatch q⟩
    · rw [z]; exact ⟨o, ho, fun v q => by rw [hd] at q; cases q⟩
  keep := fun i h h' st k => let ⟨⟨old, he⟩, hi, hne⟩ := st; ⟨⟨old, k e (by simp) _ he⟩, hi.at fun o q => k it (by simp) o q, hne⟩
  item := by
    intro X hP hw hK hc i pins s σ H E I hf st hg
    subst hP hw hK
    obtain ⟨⟨old, he⟩, hit, hne, hai, hae⟩ := st
    obtain ⟨xs, x, hq, hx⟩ := hg
    obtain ⟨its, rv, p, hz⟩ := I.tuple hq
    obtain ⟨u, hu, ru⟩ := rv.get hx
    have hel : e < s.heap.objs.size := Heap.lt_size he
    have hil : it < s.heap.objs.size := by obtain ⟨_, q, _⟩ := hit; exact Heap.lt_size q
    have hin : i < its.toArray.size := by
      obtain ⟨h1, _⟩ := List.getElem?_eq_some_iff.mp hu
      simpa using h1
    have hD : Draws X.prog X.w X.A.in1 it [it, a] its.toArray.size (fun i v => its.toArray[i]? = some v) (fun i h => h.IsTupleIter it a i ∧ h.IsTuple a its.toArray) := Draws.tuple (show X.A.in1.handled = none from I.ok.hd hc) it a hai its.toArray
    refine wpAny_pyNext_enum_itemD hD he ⟨hit, p⟩ hin hne (by simp [hne, Ne.symm hae]) fun y h' tk hy ho hst hT hsz hk => ?_
    have hy' : y = u := by
      have e1 : its[i]? = some y := by simpa using hy
      rw [hu] at e1
      exact (Option.some.inj e1).symm
    subst hy'
    obtain ⟨hit', _⟩ := hst
    refine ⟨_, rfl, wpAny_letOwnedTupleGo_enum (s := { s with heap := h', toks := tk + 1 }) ho fun h'' he' sb => ?_⟩
    have hT2 : h''.get? s.heap.objs.size = some { cls := .type "tuple", data := .seq #[.int i tk, y] } := (sb.2 _ (Nat.ne_of_gt hel)).trans hT
    have new : ObjOk X.prog X.w (upd H s.heap.objs.size (.tup [.int (i : Nat), x])) h'' s.heap.objs.size (.tup [.int (i : Nat), x]) :=
      ⟨by show 2 ≤ sizeLine; decide, [.int i tk, y], .cons ⟨_, rfl⟩ (.cons ru .nil), ⟨_, hT2, rfl, _, rfl⟩⟩
    have I1 : Inv X pins σ (upd H s.heap.objs.size (.tup [.int (i : Nat), x])) { s with heap := h'', toks := tk + 1 } :=
      I.turnedNew (ch := [e, it]) (fun b ob hb q => (sb.2 b (fun z => hb (by simp [z]))).trans (hk b ob (fun z => hb (by simp [z])) (fun z => hb (by simp [z])) q)) hf (Nat.le_refl _) new
    refine ⟨.ref s.heap.objs.size, _, I1, rfl, ⟨_, x, rfl, I.hok.fresh (Nat.le_refl _), rfl, fun ys hy => by rw [I.tuple_inj hy hq]; exact hx⟩, ⟨⟨y, ?_⟩, hit'.at fun o q => (sb.2 it (Ne.symm hne)).trans q, hne, hai, hae⟩, fun b hb => ?_⟩
    · have e1 : ((i + 1 : Nat) : Int) = (i : Int) + 1 := by omega
      rw [e1]; exact he'
    · have hb' : b < s.heap.objs.size := by
        have e' : b = e ∨ b = it := by simpa using hb
        rcases e' with z | z
        · rw [z]; exact hel
        · rw [z]; exact hil
      rw [upd_ne (Nat.ne_of_lt hb')]
      exact (hf b hb).1
  done := by
    intro X hP hw hK hc i pins s σ H E I hf st hg
    subst hP hw hK
    obtain ⟨⟨old, he⟩, hit, hne, hai, hae⟩ := st
    obtain ⟨xs, hq, hx⟩ := hg
    obtain ⟨its, rv, p, hz⟩ := I.tuple hq
    obtain ⟨f0, f1, f2, f3, f4, f5⟩ := hf it (by simp)
    have hl := rv.length
    have hD : Draws X.prog X.w X.A.in1 it [it, a] its.toArray.size (fun i v => its.toArray[i]? = some v) (fun i h => h.IsTupleIter it a i ∧ h.IsTuple a its.toArray) := Draws.tuple (show X.A.in1.handled = none from I.ok.hd hc) it a hai its.toArray
    have hit' : s.heap.IsTupleIter it a its.toArray.size := by
      have : its.toArray.size = i := by simp; omega
      rw [this]; exact hit
    exact wpAny_pyNext_enum_endD hD he ⟨hit', p⟩ fun h' eb => ⟨rfl, I.turned (t' := s.toks) (fun b o hb q => eb b o hb q) f0 f1 f3 f4 f5⟩
  self := fun A i s Q E st h => let ⟨⟨_, he⟩, _⟩ := st; wpAny_pyIter_enum he h
def iEnumT (K : PySem.W.Frag) (ta : TA) : TI := fun σ H R => ta σ H fun vs H1 => ∃ a xs, vs = [.ref a] ∧ SqT K H1 a xs ∧ R (Iet K a) H1
theorem pi_enumT {X : Cx} {e : Expr} {ta : TA} {p pos tpos : Pos} {elts : List Expr} {kk : Nat} (hg : Gl X "enumerate") (hm : X.mg "enumerate" = none) (ha : PA X [e] ta) (hs : starEach [e] X.env = [(false, eval e X.env)] := by rfl) :
    PI X (.Tuple elts kk tpos) (.Call (.Name "enumerate" p) [e] [] pos) (iEnumT X.K ta) := by
  refine ⟨fun pins s σ H R I h => ?_⟩
  refine Call_ (ld_blt I hg hm boot_enumerate (PyProof.Rows.callWith_type1 (thn (ha.run pos pins s σ H _ I h) fun us s1 ⟨vs, H1, I1, r1, q1⟩ => ?_) hs rfl))
  obtain ⟨a, xs, ex, hq, q⟩ := q1
  subst ex
  cases r1 with
  | cons r rr =>
    cases rr
    cases r
    obtain ⟨its, rv, p', hz⟩ := I1.tuple hq
    have hal : a < s1.heap.objs.size := by obtain ⟨_, q, _⟩ := p'; exact Heap.lt_size q
    refine mi_enum_begins (begins_tuple a its.toArray) p' fun h' he hit hsz hk => wpAny_pyIter_enum he ?_
    have I2 : Inv X pins σ H1 { s1 with heap := h' } := I1.kept (t' := s1.toks) hk
    refine ⟨s1.heap.objs.size + 1, [s1.heap.objs.size + 1, s1.heap.objs.size], _, _, H1, rfl, I2, mi_turn_enum a (s1.heap.objs.size + 1) s1.heap.objs.size, ⟨⟨.none, he⟩, ⟨_, hit, rfl, rfl⟩, Nat.succ_ne_self _, Nat.ne_of_lt hal, Nat.ne_of_lt (Nat.lt_succ_of_lt hal)⟩, fun b hb => ?_, q⟩
    have e' : b = s1.heap.objs.size + 1 ∨ b = s1.heap.objs.size := by simpa using hb
    have hle : s1.heap.objs.size ≤ b := by
      rcases e' with z | z
      · rw [z]; exact Nat.le_add_right _ _
      · rw [z]; exact Nat.le_refl _
    exact I1.fpOk hle (I1.hok.fresh hle)
end L2
namespace L2.Mi
open PySem PySem.Spec PyProof.Rows
def enT (ds : List D) : Src := fun k _ => match ds[k]? with
  | some x => some (some (.tup [.int (k : Nat), x]))
  | none => if k = ds.length then some none else none
def iEnT (m : ME) : MI := fun σ S => (m σ S).bind fun d S1 => match tupD d with
  | some ds => .ok (enT ds) S1
  | none => .bad
def enL (d : D) : Src := fun k S => match listAt S d with
  | some ds => (match ds[k]? with | some x => some (some (.tup [.int (k : Nat), x])) | none => some none)
  | none => none
def iEnL (m : ME) : MI := fun σ S => (m σ S).bind fun d S1 => match listAt S1 d with
  | some ds => .ok (enL d) S1
  | none => .bad
section
variable {G : Gx} {X : Cx} {W : WX} {e tg : Expr} {m : ME} {pos p : Pos}
theorem jr_enT {ρ0 : Wd} {H0 : Hp} {ds : List D} {d : D} {a : Addr} (rv : RV G ρ0 H0 d (.ref a)) (hd : tupD d = some ds) : JR G ρ0 H0 (enT ds) (Iet G.K a) := by
  intro ρ S H l kz rl i
  obtain ⟨b, xs, e1, hq, hr⟩ := tupD_rel (rv.move l) hd
  cases e1
  refine ⟨fun e h => ?_, fun h => ?_⟩
  · unfold enT at h
    cases q : ds[i]? with
    | none =>
      simp only [q] at h
      split at h <;> cases h
    | some d1 =>
      simp only [q] at h
      cases h
      obtain ⟨x, h1, h2⟩ := hr.get q
      refine ⟨⟨xs, x, hq, h1⟩, fun y H' hy => ?_⟩
      obtain ⟨T, x', e2, hT, e3, hy⟩ := hy
      have e4 := hy xs hq
      rw [h1] at e4
      cases e4
      subst e2 e3
      exact ⟨Le.new hT, rl.other hT, .tup upd_same (.cons (.int _) (.cons (h2.mono (Le.new hT)) .nil))⟩
  · unfold enT at h
    cases q : ds[i]? with
    | some d1 => simp only [q] at h; cases h
    | none =>
      simp only [q] at h
      by_cases hi : i = ds.length
      · exact ⟨xs, hq, by rw [← hr.length]; exact hi.symm⟩
      · rw [if_neg hi] at h; cases h
theorem jr_enL {ρ0 : Wd} {H0 : Hp} {d : D} {a : Addr} (rv : RV G ρ0 H0 d (.ref a)) : JR G ρ0 H0 (enL d) (Ite G.K a) := by
  intro ρ S H l kz rl i
  refine ⟨fun e h => ?_, fun h => ?_⟩
  · unfold enL at h
    cases q0 : listAt S d with
    | none => simp only [q0] at h; cases h
    | some ds =>
      obtain ⟨b, xs, e1, hq, hr⟩ := listAt_rel rl (rv.move l) q0
      cases e1
      cases q : ds[i]? with
      | none => simp only [q0, q] at h; cases h
      | some d1 =>
        simp only [q0, q] at h
        cases h
        obtain ⟨x, h1, h2⟩ := hr.get q
        refine ⟨⟨xs, x, hq, h1⟩, fun y H' hy => ?_⟩
        obtain ⟨T, x', e2, hT, e3, hy⟩ := hy
        have e4 := hy xs hq
        rw [h1] at e4
        cases e4
        subst e2 e3
        exact ⟨Le.new hT, rl.other hT, .tup upd_same (.cons (.int _) (.cons (h2.mono (Le.new hT)) .nil))⟩
  · unfold enL at h
    cases q0 : listAt S d with
    | none => simp only [q0] at h; cases h
    | some ds =>
      obtain ⟨b, xs, e1, hq, hr⟩ := listAt_rel rl (rv.move l) q0
      cases e1
      cases q : ds[i]? with
      | some d1 => simp only [q0, q] at h; cases h
      | none => exact ⟨xs, hq, by rw [← hr.length]; exact List.getElem?_eq_none_iff.mp q⟩
variable {elts : List Expr} {kk : Nat} {tpos : Pos}
theorem one_go {α β : Type} {R : Wd → Hp → α → β → Prop} {ρ : Wd} {H : Hp} {σs : En} {S : Store} {Q : β → Hp → Prop} {E : XK} {f : D → Store → Res α} (p : PostR G R ρ H ((m σs S).bind f) Q E) {Q1 : List V → Hp → Prop}
    (k : ∀ ρ1 H1 S1 d x, Le G ρ H ρ1 H1 → Rl G ρ1 S1 H1 → RV G ρ1 H1 d x → PostR G R ρ1 H1 (f d S1) Q E → Q1 [x] H1) : PostA G ρ H (aList [m] σs S) Q1 E := by
  unfold aList aList
  cases q : m σs S with
  | ok d S1 =>
    rw [q] at p
    intro ρ1 H1 xs l1 rl1 rv1
    obtain ⟨x, rfl, r⟩ := rvs1 rv1
    exact k ρ1 H1 S1 d x l1 rl1 r (PostR.le (r := f d S1) p l1)
  | exc x S1 => rw [q] at p; exact p
  | bad => rw [q] at p; exact p
theorem si_enT (cc : Cc G X W) (h : SE G X W e m) (hg : Gl X "enumerate") (hm : X.mg "enumerate" = none) (hs : starEach [e] X.env = [(false, eval e X.env)] := by rfl) : SI G X W (.Tuple elts kk tpos) (.Call (.Name "enumerate" p) [e] [] pos) (iEnT m) := by
  refine si_of (pi_enumT hg hm (sa_cons h sa_nil hs) hs) fun σ H R ρ σs S rl re p => ?_
  refine ⟨ρ, σs, S, rl, re, one_go p fun ρ1 H1 S1 d x l1 rl1 rv1 p1 => ?_⟩
  cases q : tupD d with
  | none => simp only [q] at p1; exact p1.elim
  | some ds =>
    simp only [q] at p1
    obtain ⟨a, xs, rfl, hq, hr⟩ := tupD_rel rv1 q
    refine ⟨a, xs, rfl, by rw [cc.k]; exact hq, ?_⟩
    rw [cc.k]
    exact p1 ρ1 H1 _ Le.refl rl1 (jr_enT rv1 q)
theorem si_enL (cc : Cc G X W) (h : SE G X W e m) (hg : Gl X "enumerate") (hm : X.mg "enumerate" = none) (hs : starEach [e] X.env = [(false, eval e X.env)] := by rfl) : SI G X W (.Tuple elts kk tpos) (.Call (.Name "enumerate" p) [e] [] pos) (iEnL m) := by
  refine si_of (pi_enum hg hm (sa_cons h sa_nil hs) hs) fun σ H R ρ σs S rl re p => ?_
  refine ⟨ρ, σs, S, rl, re, one_go p fun ρ1 H1 S1 d x l1 rl1 rv1 p1 => ?_⟩
  cases q : listAt S1 d with
  | none => simp only [q] at p1; exact p1.elim
  | some ds =>
    simp only [q] at p1
    obtain ⟨a, xs, rfl, hq, hr⟩ := listAt_rel rl1 rv1 q
    refine ⟨a, xs, rfl, by rw [cc.k]; exact hq, ?_⟩
    rw [cc.k]
    exact p1 ρ1 H1 _ Le.refl rl1 (jr_enL rv1)
end
end L2.Mi

set_option Elab.async false
set_option linter.all false
set_option maxRecDepth 100000
set_option maxHeartbeats 4000000
namespace L2.Mi
open PySem PySem.Spec PyProof.Rows
abbrev Fg := PySem.W.Frag
theorem ba {a b : Bool} (h : (a && b) = true) : a = true ∧ b = true := Bool.and_eq_true_iff.mp h
/-- the value u is the constant d: tuples and lists by their items -/
def kvB (K : Fg) : Nat → D → Value → Bool
  | 0, _, _ => false
  | n + 1, d, u => match d, u with
    | .non, .none => true
    | .bl b, .bool c => b == c
    | .int i, .int j _ => decide (i = j)
    | .str x, .str y _ => decide (y.cps.toList = x)
    | .ty t, .type m => decide (t = m)
    | .kt ds, .ref a => (match K.lookup a with
      | some ⟨.type c, _, .seq its _, _⟩ => decide (c = "tuple") && (decide (its.size ≤ sizeLine) && (decide (ds.length = its.toList.length) && (ds.zip its.toList).all fun q => kvB K n q.1 q.2))
      | _ => false)
    | .fl ds, .ref a => (match K.lookup a with
      | some ⟨.type c, none, .seq its _, _⟩ => decide (c = "list") && (decide (its.size ≤ sizeLine) && (decide (ds.length = its.toList.length) && (ds.zip its.toList).all fun q => kvB K n q.1 q.2))
      | _ => false)
    | _, _ => false
section
variable {G : Gx}
theorem kv_all {P : D → Value → Prop} (h : ∀ d u, P d u → ∃ x, RelV x u ∧ ∀ ρ H, RV G ρ H d x) : ∀ {ds : List D} {us : List Value}, ds.length = us.length → (∀ q ∈ ds.zip us, P q.1 q.2) → ∃ xs, Vals xs us ∧ ∀ ρ H, RVs G ρ H ds xs
  | [], [], _, _ => ⟨[], .nil, fun _ _ => .nil⟩
  | [], _ :: _, e, _ => by cases e
  | _ :: _, [], e, _ => by cases e
  | d :: ds, u :: us, e, k => by
    obtain ⟨x, r1, r2⟩ := h d u (k (d, u) (by simp))
    obtain ⟨xs, s1, s2⟩ := kv_all (P := P) h (ds := ds) (us := us) (by simpa using e) fun q hq => k q (by simp [hq])
    exact ⟨x :: xs, .cons r1 s1, fun ρ H => .cons (r2 ρ H) (s2 ρ H)⟩
theorem kvB_ok : ∀ (n : Nat) (d : D) (u : Value), kvB G.K n d u = true → ∃ x, RelV x u ∧ ∀ ρ H, RV G ρ H d x
  | 0, _, _, h => by cases h
  | n + 1, d, u, h => by
    unfold kvB at h
    split at h
    · exact ⟨.non, rfl, fun _ _ => .non⟩
    · rename_i b c
      have e : b = c := eq_of_beq h
      subst e
      exact ⟨.bl b, rfl, fun _ _ => .bl b⟩
    · rename_i i j t
      have e : i = j := of_decide_eq_true h
      subst e
      exact ⟨.int i, ⟨t, rfl⟩, fun _ _ => .int i⟩
    · rename_i x y t
      have e : y.cps.toList = x := of_decide_eq_true h
      subst e
      exact ⟨.str y, ⟨t, rfl⟩, fun _ _ => rv_str y⟩
    · rename_i t m
      have e : t = m := of_decide_eq_true h
      subst e
      exact ⟨.ty t, rfl, fun _ _ => .ty t⟩
    · rename_i ds a
      split at h
      · rename_i c od its m sl q
        obtain ⟨h1, h⟩ := ba h
        obtain ⟨h2, h⟩ := ba h
        obtain ⟨h3, h4⟩ := ba h
        obtain ⟨xs, r1, r2⟩ := kv_all (G := G) (P := fun d u => kvB G.K n d u = true) (kvB_ok n) (of_decide_eq_true h3) fun q hq => List.all_eq_true.mp h4 q hq
        exact ⟨.ref a, rfl, fun ρ H => .kt (.inr ⟨_, its, m, q, congrArg Value.type (of_decide_eq_true h1), rfl, of_decide_eq_true h2, r1⟩) (r2 ρ H)⟩
      · cases h
    · rename_i ds a
      split at h
      · rename_i c its m sl q
        obtain ⟨h1, h⟩ := ba h
        obtain ⟨h2, h⟩ := ba h
        obtain ⟨h3, h4⟩ := ba h
        obtain ⟨xs, r1, r2⟩ := kv_all (G := G) (P := fun d u => kvB G.K n d u = true) (kvB_ok n) (of_decide_eq_true h3) fun q hq => List.all_eq_true.mp h4 q hq
        exact ⟨.ref a, rfl, fun ρ H => .fl (.inr (.inr ⟨_, its, m, q, congrArg Value.type (of_decide_eq_true h1), rfl, rfl, of_decide_eq_true h2, r1⟩)) (r2 ρ H)⟩
      · cases h
    · cases h
end
def pgA (K : Fg) (C : Str) (f : Str) : Addr := match PySem.W.recIn K (He.ma K (He.ga K C) f) "property" with
  | some (.ref g :: _) => g
  | _ => 0
def cgA (K : Fg) (C : Str) (f : Str) : Addr := match PySem.W.recIn K (He.ma K (He.ga K C) f) "classmethod" with
  | some (.ref g :: _) => g
  | _ => 0
inductive Pth where
  | g (x : Str) | m (C x : Str) | p (C x : Str) | c (C x : Str)
def Pth.ad (K : Fg) : Pth → Addr
  | .g x => He.ga K x
  | .m C x => He.ma K (He.ga K C) x
  | .p C x => pgA K C x
  | .c C x => cgA K C x
structure DefM where
  pth : Pth
  name : Str
  qual : Str
  st : Stmt
  dfl : List D := []
def DefM.val (d : DefM) : He.FnW := some (d.name, d.qual, defArgs d.st, .stmts (defBody d.st), defScope d.st, mainGlobals, [], builtinsNs)
def dfB (K : Fg) (dV : Value) (ds : List D) : Bool := match ds with
  | [] => (match dV with | .none => true | _ => false)
  | ds => (match dV with
    | .ref T => (match K.lookup T with
      | some ⟨_, _, .seq its _, _⟩ => decide (ds.length = its.toList.length) && (ds.zip its.toList).all fun q => kvB K 8 q.1 q.2
      | _ => false)
    | _ => false)
def DefM.ok (K : Fg) (d : DefM) : Bool := PySem.W.keepIn K (.ref (d.pth.ad K)) && (match K.lookup (d.pth.ad K) with
  | some ⟨_, _, .func fd, _⟩ => PySem.W.codeIn K fd.code d.qual && dfB K fd.defaults d.dfl
  | _ => false)
def fnM (K : Fg) (a : Addr) : He.FnW := match K.lookup a with
  | some ⟨_, _, .func fd, _⟩ => some (fd.name, fd.qualname, fd.params, fd.body, fd.scope, fd.globals, fd.closure, fd.builtins)
  | _ => none
theorem dfB_ok {G : Gx} {dV : Value} {ds : List D} (h : dfB G.K dV ds = true) : ∃ dvs, DflV G.K dV dvs ∧ ∀ ρ H, RVs G ρ H ds dvs := by
  unfold dfB at h
  split at h
  · split at h
    · exact ⟨[], .inl ⟨rfl, rfl⟩, fun _ _ => .nil⟩
    · cases h
  · rename_i hne
    split at h
    · rename_i T
      split at h
      · rename_i oc od its m sl q
        obtain ⟨h1, h2⟩ := ba h
        obtain ⟨xs, r1, r2⟩ := kv_all (G := G) (P := fun d u => kvB G.K 8 d u = true) (kvB_ok 8) (of_decide_eq_true h1) fun q hq => List.all_eq_true.mp h2 q hq
        refine ⟨xs, .inr ⟨fun e => ?_, T, _, its.toList, m, rfl, q, by simp, r1⟩, r2⟩
        subst e
        have z := (r2 ⟨[], []⟩ fun _ => none).length
        cases ds with
        | nil => exact hne rfl
        | cons _ _ => cases z
      · cases h
    · cases h
/-- a def as the walk takes it -/
structure FnM (G : Gx) (d : DefM) where
  fd : FuncData
  dvs : List V
  F : FunD G.K d.name d.qual (defArgs d.st) (defBody d.st) (defScope d.st) dvs [] (d.pth.ad G.K) fd
  rd : ∀ ρ H, RVs G ρ H d.dfl dvs
theorem fnM_ok {G : Gx} {d : DefM} (e : fnM G.K (d.pth.ad G.K) = d.val) (c : d.ok G.K = true) : Nonempty (FnM G d) := by
  obtain ⟨kp, c2⟩ := ba c
  unfold fnM at e
  cases q : G.K.lookup (d.pth.ad G.K) with
  | none => rw [q] at c2; cases c2
  | some o =>
    obtain ⟨oc, od, dt, osl⟩ := o
    rw [q] at c2 e
    cases dt with
    | func fd =>
      obtain ⟨n1, n2, n3, n4, n5, n6, n7, n8, n9, n10, n11, n12, n13, n14, n15⟩ := fd
      have e2 : (some (n1, n2, n3, n4, n5, n6, n7, n15) : He.FnW) = some (d.name, d.qual, defArgs d.st, .stmts (defBody d.st), defScope d.st, mainGlobals, [], builtinsNs) := e
      simp only [Option.some.injEq, Prod.mk.injEq] at e2
      obtain ⟨h1, h2, h3, h4, h5, h6, h7, h8⟩ := e2
      subst h1 h2 h3 h4 h5 h6 h7 h8
      obtain ⟨k1, k2⟩ := ba (show (PySem.W.codeIn G.K n13 d.qual && dfB G.K n8 d.dfl) = true from c2)
      obtain ⟨dvs, k3, k4⟩ := dfB_ok k2
      exact ⟨⟨_, dvs, ⟨⟨oc, od, n8, n9, n10, n11, n12, n13, n14, osl, rfl, q, k1, k3, .inl rfl⟩, kp⟩, k4⟩⟩
    | _ => cases c2
/-- between n less the defaults and n arguments -/
def callD (n : Nat) (dfl : List D) (m : FN) : FN := fun xs S => if xs.length ≤ n ∧ n ≤ xs.length + dfl.length then m (xs ++ dfl.drop (dfl.length + xs.length - n)) S else .bad
theorem RVs.drop {G : Gx} {ρ : Wd} {H : Hp} : ∀ (n : Nat) {ds : List D} {xs : List V}, RVs G ρ H ds xs → RVs G ρ H (ds.drop n) (xs.drop n)
  | 0, _, _, r => r
  | _ + 1, _, _, .nil => .nil
  | n + 1, _, _, .cons _ t => RVs.drop n t
theorem cal_defD {G : Gx} {P : Program} {w : World} {mg : Str → Option Value} {base : Heap} {k : Nat} {f : Addr} {fd : FuncData} {ps : List Str} {m : FN} {n : Nat} {dvs : List V} {dfl : List D}
    (F : FnOk P w G.K mg base (L2.CX P w) k f fd ps (spF G m n)) (hn : n = ps.length) (hb : ∀ j, j ≤ dvs.length → ∃ ds, Vals (dvs.drop j) ds ∧ Binds G.K fd ps ds) (hdd : ∀ ρ H, RVs G ρ H dfl dvs) : Cal G P w mg base k f (callD n dfl m) := by
  intro A outer s H us vs Q E hr e0 r h
  obtain ⟨ρ, S, es, rl, rv, p⟩ := h
  unfold callD at p
  by_cases hl : es.length ≤ n ∧ n ≤ es.length + dfl.length
  · rw [if_pos hl] at p
    have hle := (hdd ρ H).length
    obtain ⟨ds, hd, hbi⟩ := hb (dfl.length + es.length - n) (by omega)
    have hlen : vs.length + (dvs.drop (dfl.length + es.length - n)).length = n := by rw [← rv.length, List.length_drop]; omega
    have KX : G.K.In s.heap := e0.mod.kin.keeps fun b o e => (e0.bs b o e).1
    refine F.run A outer s H ⟨us, []⟩ (us ++ ds) (vs ++ dvs.drop (dfl.length + es.length - n)) Q E hr e0 (hbi s us KX ?_) (r.append hd) ⟨ρ, S, _, ?_, rl, rv.append ((hdd ρ H).drop _), p⟩
    · rw [List.length_append, ← r.length, ← hd.length, ← hn]; exact hlen
    · rw [List.length_append]; exact hlen
  · rw [if_neg hl] at p
    exact p.elim
inductive Fm where
  | glo (x : Str) | free (x : Str) | con (x : Str) (d : D)
  | cls (C : Str) | noat (C f : Str) | meth (C m : Str) | mkr (C : Str) | prop (C f : Str)
  | bin (C : Str) (o : Operator) | un (C m : Str) | ne (C : Str) | callo (C : Str)
  | oex (C : Str) | exm (A B : Str) (b : Bool)
  | raw (p : Fg → Bool)
/-- an own class over ValueError, with a dict -/
def oexO (K : Fg) (C : Addr) : Bool := match K.lookup C with
  | some ⟨.type t, _, .cls cd, sl⟩ => (match cd.mro, sl.toList with
    | .ref C' :: bm, [_, _, _, _, some (.builtin n), _] => decide (t = "type") && (decide (C' = C) && (decide (n = "ValueError.__new__") && (!cd.hasDel && (cd.hasDict && PySem.HandSPX.refsVE bm))))
    | _, _ => false)
  | _ => false
def clB (K : Fg) (C : Addr) : Bool := PySem.W.plainGet K C Str.empty && (PySem.W.hasDictIn K C && (PySem.W.plainOver K C && (He.eqO (PySem.W.findIn K (.ref C) "__setattr__") (some (some (.builtin "object.__setattr__"))) &&
  (He.eqO (PySem.W.findIn K (.ref C) "__class__") (some (some (.builtin "object.__class__"))) && (He.eqO (PySem.W.specialIn K (.builtin "object.__class__") "__get__") (some (some (.builtin "getset_descriptor.__get__"))) &&
  (decide (PySem.W.takesIn K (.builtin "object.__class__") = some true) && decide (PySem.W.mroIn K C (.type "object") = some true)))))))
theorem clB_ok {K : Fg} {C : Addr} (h : clB K C = true) : CI K C := by
  obtain ⟨h1, h⟩ := ba h
  obtain ⟨h2, h⟩ := ba h
  obtain ⟨h3, h⟩ := ba h
  obtain ⟨h4, h⟩ := ba h
  obtain ⟨h5, h⟩ := ba h
  obtain ⟨h6, h⟩ := ba h
  obtain ⟨h7, h8⟩ := ba h
  exact ⟨⟨h1, h2, h3, He.eqO_ok h4⟩, He.eqO_ok h5, He.eqO_ok h6, of_decide_eq_true h7, of_decide_eq_true h8⟩
def fnAt (K : Fg) (C : Addr) (m : Str) : Bool := He.eqO (PySem.W.findIn K (.ref C) m) (some (some (.ref (He.ma K C m)))) && PySem.W.isFn K (.ref (He.ma K C m))
theorem fnAt_ok {K : Fg} {C : Addr} {m : Str} (h : fnAt K C m = true) : PySem.W.findIn K (.ref C) m = some (some (.ref (He.ma K C m))) ∧ PySem.W.isFn K (.ref (He.ma K C m)) = true := by
  obtain ⟨h1, h2⟩ := ba h
  exact ⟨He.eqO_ok h1, h2⟩
def refNone : Option (Option Value) → Bool
  | some none => true
  | some (some (.ref _)) => true
  | _ => false
def Fm.ok (K : Fg) : Fm → Bool
  | .glo x => He.eqO (PySem.W.nsIn K mainGlobals x) (some (some (.ref (He.ga K x)))) && PySem.W.keepIn K (.ref (He.ga K x))
  | .free x => He.eqO (PySem.W.nsIn K mainGlobals x) (some none)
  | .con x d => (match PySem.W.nsIn K mainGlobals x with | some (some u) => kvB K 8 d u | _ => false)
  | .cls C => clB K (He.ga K C)
  | .noat C f => He.eqO (PySem.W.findIn K (.ref (He.ga K C)) f) (some none)
  | .meth C m => fnAt K (He.ga K C) m && PySem.W.keepIn K (.ref (He.ma K (He.ga K C) m))
  | .mkr C => PySem.W.makesIn K (He.ga K C) && (fnAt K (He.ga K C) "__init__" && PySem.W.keepIn K (.ref (He.ga K C)))
  | .prop C f => He.eqO (PySem.W.findIn K (.ref (He.ga K C)) f) (some (some (.ref (He.ma K (He.ga K C) f)))) && (He.eqO (PySem.W.specialIn K (.ref (He.ma K (He.ga K C) f)) "__get__") (some (some (.builtin "property.__get__"))) &&
    (decide (PySem.W.takesIn K (.ref (He.ma K (He.ga K C) f)) = some true) && (match PySem.W.recIn K (He.ma K (He.ga K C) f) "property" with | some (.ref _ :: _) => true | _ => false)))
  | .bin C o => PySem.W.selfFirst K (He.ga K C) && (fnAt K (He.ga K C) (PySem.dunder o.info.2) && (refNone (PySem.W.findIn K (.ref (He.ga K C)) (dunderR o.info.2)) && ((PySem.W.findIn K (.type "int") (PySem.dunder o.info.2)).isSome &&
    ((PySem.W.findIn K (.type "int") (dunderR o.info.2)).isSome && decide (PySem.W.subIn K (.type "int") (.ref (He.ga K C)) = some false)))))
  | .un C m => fnAt K (He.ga K C) m
  | .ne C => He.eqO (PySem.W.findIn K (.ref (He.ga K C)) "__ne__") (some (some (.builtin "object.__ne__"))) && fnAt K (He.ga K C) "__eq__"
  | .callo C => fnAt K (He.ga K C) "__call__" && PySem.W.fnIn K (He.ma K (He.ga K C) "__call__")
  | .oex C => oexO K (He.ga K C) && (He.eqO (PySem.W.findIn K (.ref (He.ga K C)) "__setattr__") (some (some (.builtin "object.__setattr__"))) && (decide (PySem.W.subIn K (.ref (He.ga K C)) (.type "BaseException") = some true) &&
    (decide (PySem.W.typeIn K (.ref (He.ga K C)) = some (.type "type")) && (PySem.W.keepIn K (.ref (He.ga K C)) && (fnAt K (He.ga K C) "__init__" && xfB K (He.ga K C))))))
  | .raw p => p K
  | .exm A B b => decide (PySem.W.exmOne K (.ref (He.ga K A)) (.ref (He.ga K B)) = some b)
structure Lw where
  cls : List Str
  flds : List Str
  isi : List (Tag × Tag × Bool)
  xcl : List Str
  defs : List DefM
  fa : List Fm
  /-- the def whose table of code objects grows, and its code objects' name -/
  tab : Option (Str × Str) := none
  fok : (decide flds.Nodup && flds.all fun x => decide (x.cps.size ≠ 1) || x.cps.all fun c => decide (c < 2000000)) = true
def fldOf (l : List Str) (i : Nat) : Str := match l[i]? with | some x => x | none => ⟨#[2000000 + i]⟩
theorem fldOf_inj {l : List Str} (h : (decide l.Nodup && l.all fun x => decide (x.cps.size ≠ 1) || x.cps.all fun c => decide (c < 2000000)) = true) (i j : Nat) (e : fldOf l i = fldOf l j) : i = j := by
  obtain ⟨h1, h2⟩ := ba h
  have nd : l.Nodup := of_decide_eq_true h1
  have odd : ∀ x ∈ l, ∀ k, x ≠ ⟨#[2000000 + k]⟩ := fun x hx k ex => by
    have z := List.all_eq_true.mp h2 x hx
    rw [ex] at z
    simp at z
    omega
  unfold fldOf at e
  cases q : l[i]? with
  | some x =>
    cases q2 : l[j]? with
    | some y =>
      rw [q, q2] at e
      have e' : x = y := e
      subst e'
      obtain ⟨a1, e1⟩ := List.getElem?_eq_some_iff.mp q
      obtain ⟨a2, e2⟩ := List.getElem?_eq_some_iff.mp q2
      have pw := List.pairwise_iff_getElem.mp nd
      rcases Nat.lt_trichotomy i j with h | h | h
      · exact absurd (e1.trans e2.symm) (pw i j a1 a2 h)
      · exact h
      · exact absurd (e2.trans e1.symm) (pw j i a2 a1 h)
    | none =>
      rw [q, q2] at e
      exact absurd e (odd x (List.mem_of_getElem? q) j)
  | none =>
    cases q2 : l[j]? with
    | some y =>
      rw [q, q2] at e
      exact absurd e.symm (odd y (List.mem_of_getElem? q2) i)
    | none =>
      rw [q, q2] at e
      have e' : (⟨#[2000000 + i]⟩ : Str) = ⟨#[2000000 + j]⟩ := e
      simp at e'
      exact e'
def Lw.clsA (L : Lw) (K : Fg) (c : Nat) : Option Addr := (L.cls[c]?).map (He.ga K)
def Lw.isiF (L : Lw) (t u : Tag) : Option Bool := (L.isi.find? fun q => q.1 == t && q.2.1 == u).map (·.2.2)
def Lw.isiB (L : Lw) (K : Fg) : Bool := L.isi.all fun q => match tagVal (L.clsA K) q.1, tagVal (L.clsA K) q.2.1 with
  | some a, some b => decide (PySem.W.kitOne K a b = some q.2.2)
  | _, _ => true
def Lw.ex (L : Lw) (K : Fg) : Bool := (L.fa.all fun f => f.ok K) && (L.isiB K && ((L.cls.all fun x => clB K (He.ga K x)) && L.defs.all fun d => d.ok K))
abbrev AlM : Type := Bool × List He.FnW
def Lw.obs (L : Lw) (K : Fg) : AlM := (L.ex K, L.defs.map fun d => fnM K (d.pth.ad K))
def Lw.vl (L : Lw) : AlM := (true, L.defs.map DefM.val)
def Lw.Says (L : Lw) (K : Fg) : Prop := L.obs K = L.vl
/-- what is looked at: all but the table that grows -/
def Lw.asL (L : Lw) (n : Nat) (g : Addr → Option Obj) : List Addr := match L.tab with
  | none => He5.asA g n
  | some p => match PySem.W.tabIn (He.frG g (He5.asA g n)) p.1 with
    | some q => (He5.asA g n).filter fun a => !(a == q.2)
    | none => He5.asA g n
def Lw.obsG (L : Lw) (n : Nat) (g : Addr → Option Obj) : AlM := L.obs (He.frG g (L.asL n g))
def Lw.hook (L : Lw) (n : Nat) : PySem.W.Hook where
  α := AlM
  obs := fun s => L.obsG n s.heap.get?
  val := fun _ => L.vl
  says := fun _ h => ∃ K : Fg, K.In h ∧ L.Says K
  of := fun _ _ e => ⟨_, He.frG_in, e⟩
  keeps := fun _ _ _ ⟨K, hK, c⟩ k => ⟨K, PySem.W.Frag.In.keeps hK k, c⟩
theorem Lw.obsG_eq {L : Lw} {n : Nat} {g : Addr → Option Obj} {s : Shared} (h : ∀ a, g a = s.heap.get? a) : L.obsG n g = (L.hook n).obs s := by
  have e : g = s.heap.get? := funext h
  rw [e] <;> rfl
section
variable {L : Lw} {K : Fg}
theorem Lw.Says.all (c : L.Says K) : L.ex K = true := congrArg (fun z : AlM => z.1) c
theorem Lw.Says.fact (c : L.Says K) (i : Nat) {f : Fm} (h : L.fa[i]? = some f) : f.ok K = true := List.all_eq_true.mp (ba c.all).1 f (List.mem_of_getElem? h)
theorem Lw.Says.ci (c : L.Says K) (i : Nat) (C : Addr) (h : L.clsA K i = some C) : CI K C := by
  unfold Lw.clsA at h
  cases q : L.cls[i]? with
  | none => rw [q] at h; cases h
  | some x =>
    rw [q] at h
    cases h
    exact clB_ok (List.all_eq_true.mp (ba (ba (ba c.all).2).2).1 x (List.mem_of_getElem? q))
theorem Lw.Says.isi (c : L.Says K) (t u : Tag) (b : Bool) (tv uv : Value) (h : L.isiF t u = some b) (h1 : tagVal (L.clsA K) t = some tv) (h2 : tagVal (L.clsA K) u = some uv) : PySem.W.kitOne K tv uv = some b := by
  unfold Lw.isiF at h
  cases q : L.isi.find? fun q => q.1 == t && q.2.1 == u with
  | none => rw [q] at h; cases h
  | some z =>
    rw [q] at h
    have hb : z.2.2 = b := by simpa using h
    have hz := List.find?_some q
    have hm := List.mem_of_find?_eq_some q
    obtain ⟨e1, e2⟩ := ba hz
    have e1 := eq_of_beq e1
    have e2 := eq_of_beq e2
    have hk := List.all_eq_true.mp (ba (ba c.all).2).1 z hm
    rw [e1, e2, h1, h2] at hk
    rw [of_decide_eq_true hk, hb]
/-- the tables -/
def Lw.tabsA (L : Lw) (K : Fg) : List (Addr × Str) := match L.tab with
  | none => []
  | some p => match PySem.W.tabIn K p.1 with
    | some q => [(q.2, p.2)]
    | none => []
def Lw.gx (L : Lw) (K : Fg) (c : L.Says K) : Gx where
  K := K
  tabs := L.tabsA K
  fns := fun i => (L.defs[i]?).map fun d => d.pth.ad K
  cls := L.clsA K
  fld := fldOf L.flds
  inj := fldOf_inj L.fok
  clsv := fun i => (L.xcl[i]?).map fun C => .ref (He.ga K C)
  ci := c.ci
  isi := L.isiF
  isi_ok := c.isi
theorem Lw.gx_tabs (L : Lw) {K : Fg} {c : L.Says K} (h : L.tab = none) : (L.gx K c).tabs = [] := by
  show L.tabsA K = []
  unfold Lw.tabsA
  rw [h]
theorem Lw.Says.fn (c : L.Says K) (i : Nat) {d : DefM} (h : L.defs[i]? = some d) : Nonempty (FnM (L.gx K c) d) := by
  have e : L.defs.map (fun d => fnM K (d.pth.ad K)) = L.defs.map DefM.val := congrArg (fun z : AlM => z.2) c
  have e2 : (L.defs.map fun d => fnM K (d.pth.ad K))[i]? = (L.defs.map DefM.val)[i]? := by rw [e]
  rw [List.getElem?_map, List.getElem?_map, h] at e2
  exact fnM_ok (G := L.gx K c) (Option.some.inj e2) (List.all_eq_true.mp (ba (ba (ba c.all).2).2).2 d (List.mem_of_getElem? h))
end
end L2.Mi

set_option Elab.async false
set_option linter.all false
set_option maxRecDepth 100000
set_option maxHeartbeats 4000000
namespace L2.Mi
open PySem PySem.Spec PyProof.Rows
def lv : Nat → Nat
  | 0 => 2
  | n + 1 => lv n + 2
theorem lv_eq : ∀ n, lv n = 2 * n + 2
  | 0 => rfl
  | n + 1 => by unfold lv; rw [lv_eq n]; omega
/-- the module's names -/
def Ns (K : Fg) (mg : Str → Option Value) : Prop := ∃ h : Heap, K.In h ∧ h.Ns mainGlobals mg
section
variable {L : Lw} {K : Fg} {c : L.Says K} {mg : Str → Option Value} {x C f m : Str}
theorem Ns.glo (N : Ns K mg) (c : L.Says K) (i : Nat) (h : L.fa[i]? = some (.glo x) := by rfl) : mg x = some (.ref (He.ga K x)) := by
  obtain ⟨hp, kin, ns⟩ := N
  exact PySem.W.mg_of kin ns (He.eqO_ok (ba (c.fact i h)).1)
theorem keep_of (c : L.Says K) (i : Nat) (h : L.fa[i]? = some (.glo x) := by rfl) : PySem.W.keepIn K (.ref (He.ga K x)) = true := (ba (c.fact i h)).2
theorem Ns.free (N : Ns K mg) (c : L.Says K) (i : Nat) (h : L.fa[i]? = some (.free x) := by rfl) : mg x = none := by
  obtain ⟨hp, kin, ns⟩ := N
  exact PySem.W.mg_none_of kin ns (He.eqO_ok (c.fact i h))
theorem Ns.con (N : Ns K mg) (c : L.Says K) (i : Nat) {d : D} (h : L.fa[i]? = some (.con x d)) : ∃ u v, mg x = some u ∧ RelV v u ∧ ∀ ρ H, RV (L.gx K c) ρ H d v := by
  obtain ⟨hp, kin, ns⟩ := N
  have z := c.fact i h
  have z' : (match PySem.W.nsIn K mainGlobals x with | some (some u) => kvB K 8 d u | _ => false) = true := z
  cases q : PySem.W.nsIn K mainGlobals x with
  | none => rw [q] at z'; cases z'
  | some o =>
    cases o with
    | none => rw [q] at z'; cases z'
    | some u =>
      rw [q] at z'
      obtain ⟨v, r1, r2⟩ := kvB_ok (G := L.gx K c) 8 d u z'
      exact ⟨u, v, PySem.W.mg_of kin ns q, r1, r2⟩
end
def orB {α : Type} (a b : Res α) : Res α := match a with | .bad => b | r => r
theorem post_or {α β : Type} {G : Gx} {R : Wd → Hp → α → β → Prop} {ρ : Wd} {H : Hp} {a b : Res α} {Q : β → Hp → Prop} {E : XK} (p : PostR G R ρ H (orB a b) Q E) : PostR G R ρ H a Q E ∨ PostR G R ρ H b Q E := by
  cases a with
  | bad => exact .inr p
  | ok d S => exact .inl p
  | exc x S => exact .inl p
def opOr (f g : D → D → Store → Res D) : D → D → Store → Res D := fun x y S => orB (f x y S) (g x y S)
theorem OpS.or {G : Gx} {X : Cx} {W : WX} {F : Value → Value → Sem Value} {f g : D → D → Store → Res D} (h1 : OpS G X W F f) (h2 : OpS G X W F g) : OpS G X W F (opOr f g) := fun pins s σ H x y v u Q ρ S d1 d2 I rx ry rl r1 r2 p =>
  (post_or p).elim (h1 pins s σ H x y v u Q ρ S d1 d2 I rx ry rl r1 r2) (h2 pins s σ H x y v u Q ρ S d1 d2 I rx ry rl r1 r2)
def fnOr (f g : FN) : FN := fun xs S => orB (f xs S) (g xs S)
theorem FnS.or {G : Gx} {X : Cx} {W : WX} {F : Value} {f g : FN} (h1 : FnS G X W F f) (h2 : FnS G X W F g) : FnS G X W F (fnOr f g) := fun pins s σ H xs us Q ρ S ds I r rl rv p =>
  (post_or p).elim (h1 pins s σ H xs us Q ρ S ds I r rl rv) (h2 pins s σ H xs us Q ρ S ds I r rl rv)
theorem cal0 {G : Gx} {P : Program} {w : World} {mg : Str → Option Value} {base : Heap} {k : Nat} {f : Addr} : Cal G P w mg base k f (fun _ _ => .bad) := by
  intro A outer s H us vs Q E hr e0 r h
  obtain ⟨ρ, S, es, rl, rv, p⟩ := h
  exact p.elim
theorem ints_rel {G : Gx} {ρ : Wd} {H : Hp} : ∀ ns : List Int, RVs G ρ H (ns.map D.int) (ns.map V.int)
  | [] => .nil
  | n :: ns => .cons (.int n) (ints_rel ns)
theorem start_ok {G : Gx} {H : Hp} {a : Addr} {ns : List Int} (hT : G.tabs = []) (ho : Only H) (hS : SqL G.K H a (ns.map V.int)) : Rl G ⟨[], []⟩ ⟨[]⟩ H ∧ RV G ⟨[], []⟩ H (.fl (ns.map D.int)) (.ref a) := by
  refine ⟨⟨rfl, List.nodup_nil, fun b h => (List.not_mem_nil h).elim, fun i o h => ?_, fun p hp => ?_⟩, .fl ?_ (ints_rel ns)⟩
  · cases h
  · rw [hT] at hp; cases hp
  · rcases hS with (h | h) | h
    · rcases ho a with z | ⟨o, xs, z⟩
      · rw [h] at z; cases z
      · rw [h] at z; cases z
    · exact .inl h
    · exact .inr (.inr h)
end L2.Mi

set_option Elab.async false
set_option linter.all false
set_option maxRecDepth 100000
set_option maxHeartbeats 4000000
set_option Elab.async false
set_option linter.all false
set_option maxRecDepth 100000
set_option maxHeartbeats 4000000
set_option Elab.async false
set_option linter.all false
set_option maxRecDepth 100000
set_option maxHeartbeats 1000000
set_option Elab.async false
set_option linter.all false
set_option maxRecDepth 100000
set_option maxHeartbeats 4000000
set_option Elab.async false
set_option linter.all false
set_option maxRecDepth 100000
set_option maxHeartbeats 4000000
set_option Elab.async false
set_option linter.all false
set_option maxRecDepth 100000
set_option maxHeartbeats 4000000
set_option Elab.async false
set_option linter.all false
set_option maxRecDepth 100000
set_option maxHeartbeats 4000000
set_option Elab.async false
set_option linter.all false
set_option maxRecDepth 100000
set_option maxHeartbeats 4000000
set_option Elab.async false
set_option linter.all false
set_option maxRecDepth 100000
set_option maxHeartbeats 4000000
set_option Elab.async false
set_option linter.all false
set_option maxRecDepth 100000
set_option maxHeartbeats 1000000
set_option Elab.async false
set_option linter.all false
set_option maxRecDepth 100000
set_option maxHeartbeats 1000000
set_option Elab.async false
set_option linter.all false
set_option maxRecDepth 100000
set_option maxHeartbeats 1000000
set_option Elab.async false
set_option linter.all false
set_option maxRecDepth 100000
set_option maxHeartbeats 1000000
set_option Elab.async false
set_option linter.all false
set_option maxRecDepth 100000
set_option maxHeartbeats 1000000
set_option Elab.async false
set_option linter.all false
set_option maxRecDepth 100000
set_option maxHeartbeats 1000000
set_option Elab.async false
set_option linter.all false
set_option maxRecDepth 100000
set_option maxHeartbeats 1000000
set_option Elab.async false
set_option linter.all false
set_option maxRecDepth 100000
set_option maxHeartbeats 1000000
set_option Elab.async false
set_option linter.all false
set_option maxRecDepth 100000
set_option maxHeartbeats 1000000
set_option Elab.async false
set_option linter.all false
set_option maxRecDepth 100000
set_option maxHeartbeats 4000000
set_option Elab.async false
set_option linter.all false
set_option maxRecDepth 100000
set_option maxHeartbeats 4000000
set_option Elab.async false
set_option linter.all false
set_option maxRecDepth 100000
set_option maxHeartbeats 4000000
set_option Elab.async false
set_option linter.all false
set_option maxRecDepth 100000
set_option maxHeartbeats 1000000
set_option Elab.async false
set_option linter.all false
set_option maxRecDepth 100000
set_option maxHeartbeats 1000000
set_option Elab.async false
set_option linter.all false
set_option maxRecDepth 100000
set_option maxHeartbeats 1000000
set_option Elab.async false
set_option linter.all false
set_option maxRecDepth 100000
set_option maxHeartbeats 1000000
set_option Elab.async false
set_option linter.all false
set_option maxRecDepth 100000
set_option maxHeartbeats 1000000
set_option Elab.async false
set_option linter.all false
set_option maxRecDepth 100000
set_option maxHeartbeats 1000000
set_option Elab.async false
set_option linter.all false
set_option maxRecDepth 100000
set_option maxHeartbeats 1000000
set_option Elab.async false
set_option linter.all false
set_option maxRecDepth 100000
set_option maxHeartbeats 1000000
set_option Elab.async false
set_option linter.all false
set_option maxRecDepth 100000
set_option maxHeartbeats 1000000
set_option Elab.async false
set_option linter.all false
set_option maxRecDepth 100000
set_option maxHeartbeats 1000000
set_option Elab.async false
set_option linter.all false
set_option maxRecDepth 100000
set_option maxHeartbeats 1000000
set_option Elab.async false
set_option linter.all false
set_option maxRecDepth 100000
set_option maxHeartbeats 4000000
set_option Elab.async false
set_option linter.all false
set_option maxRecDepth 100000
set_option maxHeartbeats 4000000
set_option Elab.async false
set_option linter.all false
set_option maxRecDepth 100000
set_option maxHeartbeats 1000000
set_option Elab.async false
set_option linter.all false
set_option maxRecDepth 100000
set_option maxHeartbeats 1000000
set_option Elab.async false
set_option linter.all false
set_option maxRecDepth 100000
set_option maxHeartbeats 4000000
set_option Elab.async false
set_option linter.all false
set_option maxRecDepth 100000
set_option maxHeartbeats 4000000
set_option Elab.async false
set_option linter.all false
set_option maxRecDepth 100000
set_option maxHeartbeats 4000000
set_option Elab.async false
set_option linter.all false
set_option maxRecDepth 100000
set_option maxHeartbeats 4000000
set_option Elab.async false
set_option linter.all false
set_option maxRecDepth 100000
set_option maxHeartbeats 4000000
set_option Elab.async false
set_option linter.all false
set_option maxRecDepth 100000
set_option maxHeartbeats 4000000
namespace L2.Mi
open PySem PySem.Spec PyProof.Rows
section
variable {L : Lw} {K : Fg} {X : Cx} {C m : Str} {g : FN} {k : Nat}
def bmB (C m : Str) : Fm := .raw fun K => He.eqO (PySem.W.specialIn K (.ref (He.ma K (He.ga K C) m)) "__get__") (some (some (.builtin "function.__get__"))) && (decide (PySem.W.takesIn K (.ref (He.ma K (He.ga K C) m)) = some false) && PySem.W.fnIn K (He.ma K (He.ga K C) m))
end
end L2.Mi

set_option Elab.async false
set_option linter.all false
set_option maxRecDepth 100000
set_option maxHeartbeats 4000000
set_option Elab.async false
set_option linter.all false
set_option maxRecDepth 100000
set_option maxHeartbeats 4000000
set_option Elab.async false
set_option linter.all false
set_option maxRecDepth 100000
set_option maxHeartbeats 4000000
set_option Elab.async false
set_option linter.all false
set_option maxRecDepth 100000
set_option maxHeartbeats 4000000
set_option Elab.async false
set_option linter.all false
set_option maxRecDepth 100000
set_option maxHeartbeats 4000000
set_option Elab.async false
set_option linter.all false
set_option maxRecDepth 100000
set_option maxHeartbeats 4000000
set_option Elab.async false
set_option linter.all false
set_option maxRecDepth 100000
set_option maxHeartbeats 4000000
set_option Elab.async false
set_option linter.all false
set_option maxRecDepth 100000
set_option maxHeartbeats 4000000
set_option Elab.async false
set_option linter.all false
set_option maxRecDepth 100000
set_option maxHeartbeats 4000000
set_option Elab.async false
set_option linter.all false
set_option maxRecDepth 100000
set_option maxHeartbeats 4000000
set_option Elab.async false
set_option linter.all false
set_option maxRecDepth 100000
set_option maxHeartbeats 4000000
set_option Elab.async false
set_option linter.all false
set_option maxRecDepth 100000
set_option maxHeartbeats 1000000
set_option Elab.async false
set_option linter.all false
set_option maxRecDepth 100000
set_option maxHeartbeats 1000000
set_option Elab.async false
set_option linter.all false
set_option maxRecDepth 100000
set_option maxHeartbeats 1000000
set_option Elab.async false
set_option linter.all false
set_option maxRecDepth 100000
set_option maxHeartbeats 1000000
set_option Elab.async false
set_option linter.all false
set_option maxRecDepth 100000
set_option maxHeartbeats 1000000
set_option Elab.async false
set_option linter.all false
set_option maxRecDepth 100000
set_option maxHeartbeats 1000000
set_option Elab.async false
set_option linter.all false
set_option maxRecDepth 100000
set_option maxHeartbeats 1000000
set_option Elab.async false
set_option linter.all false
set_option maxRecDepth 100000
set_option maxHeartbeats 1000000
set_option Elab.async false
set_option linter.all false
set_option maxRecDepth 100000
set_option maxHeartbeats 1000000
set_option Elab.async false
set_option linter.all false
set_option maxRecDepth 100000
set_option maxHeartbeats 1000000
set_option Elab.async false
set_option linter.all false
set_option maxRecDepth 100000
set_option maxHeartbeats 1000000
set_option Elab.async false
set_option linter.all false
set_option maxRecDepth 100000
set_option maxHeartbeats 1000000
set_option Elab.async false
set_option linter.all false
set_option maxRecDepth 100000
set_option maxHeartbeats 1000000
set_option Elab.async false
set_option linter.all false
set_option maxRecDepth 100000
set_option maxHeartbeats 1000000
set_option Elab.async false
set_option linter.all false
set_option maxRecDepth 100000
set_option maxHeartbeats 1000000
set_option Elab.async false
set_option linter.all false
set_option maxRecDepth 100000
set_option maxHeartbeats 1000000
set_option Elab.async false
set_option linter.all false
set_option maxRecDepth 100000
set_option maxHeartbeats 1000000
set_option Elab.async false
set_option linter.all false
set_option maxRecDepth 100000
set_option maxHeartbeats 1000000
set_option Elab.async false
set_option linter.all false
set_option maxRecDepth 100000
set_option maxHeartbeats 1000000
set_option Elab.async false
set_option linter.all false
set_option maxRecDepth 100000
set_option maxHeartbeats 1000000
set_option Elab.async false
set_option linter.all false
set_option maxRecDepth 100000
set_option maxHeartbeats 2000000
set_option Elab.async false
set_option linter.all false
set_option maxRecDepth 100000
set_option maxHeartbeats 2000000
namespace L2.Mi
open PySem PySem.Spec PyProof.Rows
abbrev reTail : List Value := [.type "RuntimeError", .type "Exception", .type "BaseException", .type "object"]
/-- an own class over a built-in one with this mro -/
def oexOG (newId : String) (bmB : List Value) (K : Fg) (C : Addr) : Bool := match K.lookup C with
  | some ⟨.type t, _, .cls cd, sl⟩ => (match cd.mro, sl.toList with
    | .ref C' :: bm, [_, _, _, _, some (.builtin n), _] => decide (t = "type") && (decide (C' = C) && (decide (n = newId) && (!cd.hasDel && (cd.hasDict && PySem.W.excTail bmB bm))))
    | _, _ => false)
  | _ => false
/-- a class over RuntimeError -/
def oexRB (C : Str) (K : Fg) : Bool := oexOG "RuntimeError.__new__" reTail K (He.ga K C) && (He.eqO (PySem.W.findIn K (.ref (He.ga K C)) "__setattr__") (some (some (.builtin "object.__setattr__"))) && (PySem.W.keepIn K (.ref (He.ga K C)) &&
  (fnAt K (He.ga K C) "__init__" && xfB K (He.ga K C))))
/-- isinstance may be asked of its instances -/
def excB (C : Str) (K : Fg) : Bool := xfB K (He.ga K C) && (He.eqO (PySem.W.findIn K (.ref (He.ga K C)) "__class__") (some (some (.builtin "object.__class__"))) && (He.eqO (PySem.W.specialIn K (.builtin "object.__class__") "__get__") (some (some (.builtin "getset_descriptor.__get__"))) &&
  (decide (PySem.W.takesIn K (.builtin "object.__class__") = some true) && decide (PySem.W.mroIn K (He.ga K C) (.type "object") = some true))))
/-- what isinstance says: of C, a built-in class, an own one -/
def isxB (C : Str) (n : String) (b : Bool) (K : Fg) : Bool := decide (PySem.W.kitOne K (.ref (He.ga K C)) (.type n) = some b)
def isxO (C C2 : Str) (b : Bool) (K : Fg) : Bool := decide (PySem.W.kitOne K (.ref (He.ga K C)) (.ref (He.ga K C2)) = some b)
end L2.Mi

set_option Elab.async false
set_option linter.all false
set_option maxRecDepth 100000
set_option maxHeartbeats 2000000
set_option Elab.async false
set_option linter.all false
set_option maxRecDepth 100000
set_option maxHeartbeats 2000000
set_option Elab.async false
set_option linter.all false
set_option maxRecDepth 100000
set_option maxHeartbeats 2000000
namespace L2.Mi
open PySem PySem.Spec PyProof.Rows
/-- the answers of isinstance, in one fact -/
def isxAllB (xcl : List Str) (exc : List Nat) (t : List (Nat × (String ⊕ Nat) × Bool)) (K : Fg) : Bool :=
  (exc.all fun i => match xcl[i]? with | some C => excB C K | none => false) &&
  t.all fun q => decide (q.1 ∈ exc) && (match xcl[q.1]?, q.2.1 with
    | some C, .inl n => isxB C n q.2.2 K
    | some C, .inr j => (match xcl[j]? with | some C2 => isxO C C2 q.2.2 K | none => false)
    | none, _ => false)
end L2.Mi

set_option Elab.async false
set_option linter.all false
set_option maxRecDepth 100000
set_option maxHeartbeats 4000000
namespace L2.Mi.Pg
open PySem PySem.Spec PyProof.Rows
abbrev pw : Program := PySem.Challenge.pw_farmisses_k13_errors_of_the_package
def top (i : Nat) : Stmt := pw.main.body.getD i (.Pass ⟨0, 0, 0, 0⟩)
abbrev s_0 : Stmt := inClass (top 2) 0
abbrev s_1 : Stmt := inClass (top 3) 0
abbrev s_2 : Stmt := inClass (top 4) 0
abbrev s_3 : Stmt := inClass (top 5) 0
abbrev s_4 : Stmt := inClass (top 6) 0
abbrev s_5 : Stmt := inClass (top 7) 0
abbrev s_6 : Stmt := inClass (top 8) 0
abbrev s_7 : Stmt := inClass (top 9) 0
abbrev s_8 : Stmt := inClass (top 10) 0
abbrev s_9 : Stmt := inClass (top 11) 0
abbrev s_10 : Stmt := inClass (top 12) 0
abbrev s_11 : Stmt := inClass (top 13) 0
abbrev s_12 : Stmt := inClass (top 14) 0
abbrev s_13 : Stmt := inClass (top 15) 0
abbrev s_14 : Stmt := inClass (top 16) 0
abbrev s_15 : Stmt := inClass (top 17) 0
abbrev s_16 : Stmt := inClass (top 18) 0
abbrev s_17 : Stmt := inClass (top 19) 0
abbrev s_18 : Stmt := top 21
abbrev s_19 : Stmt := top 22
abbrev s_20 : Stmt := top 23
abbrev s_21 : Stmt := top 24
abbrev s_22 : Stmt := top 25
abbrev s_23 : Stmt := top 26
abbrev s_24 : Stmt := top 27
def isiT : List (Tag × Tag × Bool) := []
def isxA : List (Nat × List Nat × List String) := [(1, [0, 1], ["ValueError"]), (2, [0, 2], ["ValueError"]), (3, [0, 3], ["ValueError"]), (4, [4, 0], ["ValueError"]), (5, [0, 5], ["ValueError"]), (6, [0, 6], ["ValueError"]), (7, [0, 7], ["ValueError"]), (8, [0, 8], ["ValueError"]), (9, [0, 9], ["ValueError"]), (10, [0, 10], ["ValueError"]), (11, [0, 11], ["ValueError"]), (12, [0, 12], ["ValueError"]), (13, [0, 13], ["ValueError"]), (14, [0, 14], ["ValueError"]), (15, [0, 15], ["ValueError"]), (16, [0, 16], ["ValueError"]), (17, [0, 17], ["ValueError"]), (18, [], ["RuntimeError"])]
def isxTb : List (Nat × (String ⊕ Nat) × Bool) := isxA.flatMap fun q => ([4, 0, 12, 9, 17, 15, 8, 11, 16, 2, 1, 3, 14, 10, 6, 7, 13, 5].map fun j => (q.1, Sum.inr j, q.2.1.contains j)) ++ (["RuntimeError", "ValueError"].map fun n => (q.1, Sum.inl n, q.2.2.contains n))
end L2.Mi.Pg

set_option Elab.async false
set_option linter.all false
set_option maxRecDepth 100000
set_option maxHeartbeats 4000000
namespace L2.Mi.Pg
open PySem PySem.Spec PyProof.Rows
def defs : List DefM := [⟨.m "InvalidText" "__init__", "__init__", "InvalidText.__init__", s_0, []⟩,
  ⟨.m "InvalidSyntax" "__init__", "__init__", "InvalidSyntax.__init__", s_1, []⟩,
  ⟨.m "InvalidTree" "__init__", "__init__", "InvalidTree.__init__", s_2, []⟩,
  ⟨.m "DuplicateName" "__init__", "__init__", "DuplicateName.__init__", s_3, []⟩,
  ⟨.m "UnknownName" "__init__", "__init__", "UnknownName.__init__", s_4, []⟩,
  ⟨.m "TooLarge" "__init__", "__init__", "TooLarge.__init__", s_5, []⟩,
  ⟨.m "TooMany" "__init__", "__init__", "TooMany.__init__", s_6, []⟩,
  ⟨.m "InvalidNumber" "__init__", "__init__", "InvalidNumber.__init__", s_7, []⟩,
  ⟨.m "InvalidCache" "__init__", "__init__", "InvalidCache.__init__", s_8, []⟩,
  ⟨.m "OutOfRange" "__init__", "__init__", "OutOfRange.__init__", s_9, []⟩,
  ⟨.m "InvalidOrder" "__init__", "__init__", "InvalidOrder.__init__", s_10, []⟩,
  ⟨.m "InvalidBlocks" "__init__", "__init__", "InvalidBlocks.__init__", s_11, []⟩,
  ⟨.m "Uneven" "__init__", "__init__", "Uneven.__init__", s_12, []⟩,
  ⟨.m "InvalidWeights" "__init__", "__init__", "InvalidWeights.__init__", s_13, []⟩,
  ⟨.m "InvalidEvent" "__init__", "__init__", "InvalidEvent.__init__", s_14, []⟩,
  ⟨.m "InvalidQuestion" "__init__", "__init__", "InvalidQuestion.__init__", s_15, []⟩,
  ⟨.m "InvalidCommand" "__init__", "__init__", "InvalidCommand.__init__", s_16, []⟩,
  ⟨.m "LimitExceeded" "__init__", "__init__", "LimitExceeded.__init__", s_17, []⟩,
  ⟨.g "_law_pool", "_law_pool", "_law_pool", s_18, []⟩,
  ⟨.g "_law_take", "_law_take", "_law_take", s_19, []⟩,
  ⟨.g "_law_by_value", "_law_by_value", "_law_by_value", s_20, []⟩,
  ⟨.g "_law_by_word", "_law_by_word", "_law_by_word", s_21, []⟩,
  ⟨.g "_law_all", "_law_all", "_law_all", s_22, []⟩,
  ⟨.g "_law_kinds", "_law_kinds", "_law_kinds", s_23, []⟩,
  ⟨.g "law", "law", "law", s_24, []⟩]
def fa : List Fm := [.glo "law",
  .free "len",
  .free "abs",
  .free "int",
  .oex "InvalidText",
  .noat "InvalidText" "value",
  .glo "InvalidText",
  .oex "InvalidTree",
  .noat "InvalidTree" "value",
  .glo "InvalidTree",
  .oex "InvalidNumber",
  .noat "InvalidNumber" "value",
  .glo "InvalidNumber",
  .oex "InvalidCache",
  .noat "InvalidCache" "value",
  .glo "InvalidCache",
  .oex "InvalidOrder",
  .noat "InvalidOrder" "value",
  .glo "InvalidOrder",
  .oex "InvalidBlocks",
  .noat "InvalidBlocks" "value",
  .glo "InvalidBlocks",
  .oex "InvalidWeights",
  .noat "InvalidWeights" "value",
  .glo "InvalidWeights",
  .oex "InvalidEvent",
  .noat "InvalidEvent" "value",
  .glo "InvalidEvent",
  .oex "DuplicateName",
  .noat "DuplicateName" "name",
  .glo "DuplicateName",
  .oex "UnknownName",
  .noat "UnknownName" "name",
  .glo "UnknownName",
  .oex "Uneven",
  .noat "Uneven" "name",
  .glo "Uneven",
  .oex "TooLarge",
  .noat "TooLarge" "word",
  .glo "TooLarge",
  .oex "TooMany",
  .noat "TooMany" "word",
  .glo "TooMany",
  .oex "InvalidCommand",
  .noat "InvalidCommand" "word",
  .glo "InvalidCommand",
  .raw (oexRB "LimitExceeded"),
  .noat "LimitExceeded" "word",
  .glo "LimitExceeded",
  .oex "InvalidSyntax",
  .noat "InvalidSyntax" "position",
  .glo "InvalidSyntax",
  .oex "InvalidQuestion",
  .noat "InvalidQuestion" "position",
  .glo "InvalidQuestion",
  .oex "OutOfRange",
  .noat "OutOfRange" "access",
  .glo "OutOfRange",
  .free "isinstance",
  .glo "_law_pool",
  .glo "_law_take",
  .glo "_law_by_value",
  .free "repr",
  .glo "_law_by_word",
  .glo "_law_all",
  .free "enumerate",
  .glo "_law_kinds",
  .free "range",
  .glo "FarError",
  .free "ValueError",
  .free "RuntimeError",
  .raw (isxAllB ["FarError", "InvalidText", "InvalidSyntax", "InvalidTree", "DuplicateName", "UnknownName", "TooLarge", "TooMany", "InvalidNumber", "InvalidCache", "OutOfRange", "InvalidOrder", "InvalidBlocks", "Uneven", "InvalidWeights", "InvalidEvent", "InvalidQuestion", "InvalidCommand", "LimitExceeded"] [1, 2, 3, 4, 5, 6, 7, 8, 9, 10, 11, 12, 13, 14, 15, 16, 17, 18] isxTb)]
def L : Lw where
  cls := []
  flds := ["value", "name", "word", "position", "access"]
  isi := isiT
  xcl := ["FarError", "InvalidText", "InvalidSyntax", "InvalidTree", "DuplicateName", "UnknownName", "TooLarge", "TooMany", "InvalidNumber", "InvalidCache", "OutOfRange", "InvalidOrder", "InvalidBlocks", "Uneven", "InvalidWeights", "InvalidEvent", "InvalidQuestion", "InvalidCommand", "LimitExceeded"]
  defs := defs
  fa := fa
  fok := by decide +kernel
end L2.Mi.Pg

set_option Elab.async false
set_option linter.all false
set_option maxRecDepth 100000
set_option maxHeartbeats 4000000
namespace L2.Mi.Pg
open PySem PySem.Spec PyProof.Rows
abbrev R : PySem.W.OpenRow := PySem.W.OpenLaw.row PySem.Challenge.rw_farmisses_k13_errors_of_the_package
abbrev hk : PySem.W.Hook := L.hook 6
def ob (s : PySem.W.SharedT) : AlM := L.obsG 6 (HandSHeadRun.getT s)
def loose0 : List Str := ["FarError", "InvalidText", "InvalidSyntax", "InvalidTree", "DuplicateName", "UnknownName", "TooLarge", "TooMany", "InvalidNumber", "InvalidCache", "OutOfRange", "InvalidOrder", "InvalidBlocks", "Uneven", "InvalidWeights"]
def loose1 : List Str := ["InvalidEvent", "InvalidQuestion", "InvalidCommand", "LimitExceeded", "_law_pool", "_law_take", "_law_by_value", "_law_by_word", "_law_all", "_law_kinds"]
def loose : List Str := loose0 ++ loose1
theorem head (w : World) : HandSHeadRun.RunEq R (PySem.W.view R.prog [27]) hk ob 20000 loose w := by
  intro os
  kernel_rfl
end L2.Mi.Pg

set_option Elab.async false
set_option linter.all false
set_option maxRecDepth 100000
set_option maxHeartbeats 4000000
set_option Elab.async false
set_option linter.all false
set_option maxRecDepth 100000
set_option maxHeartbeats 4000000
set_option Elab.async false
set_option linter.all false
set_option maxRecDepth 100000
set_option maxHeartbeats 4000000
set_option Elab.async false
set_option linter.all false
set_option maxRecDepth 100000
set_option maxHeartbeats 4000000
set_option Elab.async false
set_option linter.all false
set_option maxRecDepth 100000
set_option maxHeartbeats 4000000
set_option Elab.async false
set_option linter.all false
set_option maxRecDepth 100000
set_option maxHeartbeats 4000000
set_option Elab.async false
set_option linter.all false
set_option maxRecDepth 100000
set_option maxHeartbeats 4000000
set_option Elab.async false
set_option linter.all false
set_option maxRecDepth 100000
set_option maxHeartbeats 4000000
set_option Elab.async false
set_option linter.all false
set_option maxRecDepth 100000
set_option maxHeartbeats 4000000
set_option Elab.async false
set_option linter.all false
set_option maxRecDepth 100000
set_option maxHeartbeats 4000000
set_option Elab.async false
set_option linter.all false
set_option maxRecDepth 100000
set_option maxHeartbeats 4000000
set_option Elab.async false
set_option linter.all false
set_option maxRecDepth 100000
set_option maxHeartbeats 4000000
set_option Elab.async false
set_option linter.all false
set_option maxRecDepth 100000
set_option maxHeartbeats 4000000
set_option Elab.async false
set_option linter.all false
set_option maxRecDepth 100000
set_option maxHeartbeats 4000000
set_option Elab.async false
set_option linter.all false
set_option maxRecDepth 100000
set_option maxHeartbeats 4000000
set_option Elab.async false
set_option linter.all false
set_option maxRecDepth 100000
set_option maxHeartbeats 4000000
namespace L2.Mi
open PySem PySem.Spec PyProof.Rows
section
variable {G : Gx} {X : Cx} {W : WX} {a b c e tg : Expr} {ma mb mc m : ME} {pos : Pos}
def truD (S : Store) : D → Option Bool
  | .non => some false
  | .bl b => some b
  | .int i => some (i != 0)
  | .str l => if l.length ≤ lim then some ((l.length : Int) != 0) else none
  | d => (match seqAt S d with | some ds => some (!ds.isEmpty) | none => none)
def tTru (m : ME) : MT := fun σ S => (m σ S).bind fun d S1 => match truD S1 d with | some k => .ok k S1 | none => .bad
theorem rvs_empty {ρ : Wd} {H : Hp} {ds : List D} {xs : List V} (r : RVs G ρ H ds xs) : xs.isEmpty = ds.isEmpty := by cases r <;> rfl
theorem truD_rel {ρ : Wd} {S : Store} {H : Hp} {d : D} {x : V} {k : Bool} (rl : Rl G ρ S H) (rv : RV G ρ H d x) (h : truD S d = some k) : TruV G.K x H k := by
  have sq : ∀ {d : D} {x : V}, RV G ρ H d x → (match seqAt S d with | some ds => some (!ds.isEmpty) | none => none) = some k → TruV G.K x H k := fun {d x} rv h => by
    cases q : seqAt S d with
    | none => rw [q] at h; cases h
    | some ds =>
      rw [q] at h
      obtain ⟨a, xs, rfl, hq, hr⟩ := seqAt_rel rl rv q
      have hk : k = !xs.isEmpty := by rw [rvs_empty hr]; exact (Option.some.inj h).symm
      rcases hq with hq | hq
      · exact .inl ⟨xs, hq, hk⟩
      · exact .inr (.inl ⟨xs, hq, hk⟩)
  cases rv with
  | non => exact (Option.some.inj h).symm
  | bl b => exact (Option.some.inj h).symm
  | int i => exact (Option.some.inj h).symm
  | str l =>
    have h : (if l.length ≤ lim then some ((l.length : Int) != 0) else none) = some k := h
    by_cases hl : l.length ≤ lim
    · rw [if_pos hl] at h
      refine ⟨by rw [str_len]; exact lim_le hl, ?_⟩
      rw [str_len]
      exact (Option.some.inj h).symm
    · rw [if_neg hl] at h; cases h
  | tup ht hr => exact sq (.tup ht hr) h
  | kt ht hr => exact sq (.kt ht hr) h
  | lv n ht hr => exact sq (.lv n ht hr) h
  | fl ht hr => exact sq (.fl ht hr) h
  | ref hi => exact sq (.ref hi) h
  | fn hi => exact sq (.fn hi) h
  | ty n => cases h
  | cl hc => cases h
  | ex _ _ _ _ => cases h
  | cx _ => cases h
  | dvK _ _ _ => cases h
  | dvT _ _ _ => cases h
theorem st_tru (cc : Cc G X W) (h : SE G X W e m) (he : ∀ whole, isTrue e X.env whole = (do let v ← whole; standAt e.pos; holding [v] (truthy v)) := by intro _; rfl) : ST G X W e (tTru m) := by
  refine PT.weak (pt_truth h he) fun σ H Q ⟨ρ, σs, S, rl, re, p⟩ => ?_
  refine ⟨ρ, σs, S, rl, re, p.bind (R := RV G) fun ρ1 H1 S1 d x l1 rl1 rv1 p1 => ?_⟩
  cases q : truD S1 d with
  | none => simp only [q] at p1; exact p1.elim
  | some k =>
    simp only [q] at p1
    exact ⟨k, by rw [cc.k]; exact truD_rel rl1 rv1 q, p1 ρ1 H1 k Le.refl rl1 rfl⟩
def iOr (a b : MI) : MI := fun σ S => orB (a σ S) (b σ S)
theorem si_or {iter : Expr} {m1 m2 : MI} (h1 : SI G X W tg iter m1) (h2 : SI G X W tg iter m2) : SI G X W tg iter (iOr m1 m2) := ⟨fun pins s σ H R I ⟨ρ, σs, S, rl, re, p⟩ =>
  (post_or p).elim (fun p => h1.run pins s σ H R I ⟨ρ, σs, S, rl, re, p⟩) (fun p => h2.run pins s σ H R I ⟨ρ, σs, S, rl, re, p⟩)⟩
/-- a tuple or a list -/
def iSeq (m : ME) : MI := fun σ S => (m σ S).bind fun d S1 => match tupD d with
  | some ds => .ok (fun k _ => some ds[k]?) S1
  | none => (match listAt S1 d with
    | some _ => .ok (fun k S' => (listAt S' d).map fun ds => ds[k]?) S1
    | none => .bad)
theorem iSeq_or (m : ME) (σ : En) (S : Store) : iSeq m σ S = iOr (iTup m) (iList m) σ S := by
  unfold iSeq iOr iTup iList
  cases q : m σ S with
  | ok d S1 => cases d <;> rfl
  | exc x S1 => rfl
  | bad => rfl
theorem si_seq (cc : Cc G X W) (h : SE G X W e m) : SI G X W tg e (iSeq m) := by
  have z : iSeq m = iOr (iTup m) (iList m) := funext fun σ => funext fun S => iSeq_or m σ S
  rw [z]
  exact si_or (si_tup cc h) (si_list cc h)
def iEn (m : ME) : MI := fun σ S => (m σ S).bind fun d S1 => match tupD d with
  | some ds => .ok (enT ds) S1
  | none => (match listAt S1 d with
    | some _ => .ok (enL d) S1
    | none => .bad)
theorem iEn_or (m : ME) (σ : En) (S : Store) : iEn m σ S = iOr (iEnT m) (iEnL m) σ S := by
  unfold iEn iOr iEnT iEnL
  cases q : m σ S with
  | ok d S1 => cases d <;> rfl
  | exc x S1 => rfl
  | bad => rfl
theorem si_en {elts : List Expr} {kk : Nat} {tpos p : Pos} (cc : Cc G X W) (h : SE G X W e m) (hg : Gl X "enumerate") (hm : X.mg "enumerate" = none) (hs : starEach [e] X.env = [(false, eval e X.env)] := by rfl) : SI G X W (.Tuple elts kk tpos) (.Call (.Name "enumerate" p) [e] [] pos) (iEn m) := by
  have z : iEn m = iOr (iEnT m) (iEnL m) := funext fun σ => funext fun S => iEn_or m σ S
  rw [z]
  exact si_or (si_enT cc h hg hm hs) (si_enL cc h hg hm hs)
theorem szl {k : Nat} (h : Nat.ble k 16777216 = true) : k ≤ sizeLine := by rw [sizeLine_eq]; exact Nat.le_of_ble_eq_true h
/-- a comprehension: the block's context comes with each part -/
theorem se_lcc {elt tg iter : Expr} {ifs : List Expr} {scope : Scope} {own : List (Str × Nat)} {mi : MI} {t : TgN} {mt : MT} {me : ME} (n : Nat) (cc : Cc G X W) (hi : SI G X W tg iter mi) (ok : BlkOk X.N X.env.scope scope own) (hv : ∀ i ∈ t.slots, i ∈ own.map (·.2))
    (hg : ∀ (s : Shared) (H : Hp) (C : Addr) (cl : List (Str × Addr)) (fp : List Addr), Cc G (X.blk s H scope (compEnvC scope cl C X.env) fp) W0 → PG (X.blk s H scope (compEnvC scope cl C X.env) fp) tg (t.tg X.K))
    (ht : ∀ (s : Shared) (H : Hp) (C : Addr) (cl : List (Str × Addr)) (fp : List Addr), Cc G (X.blk s H scope (compEnvC scope cl C X.env) fp) W0 → PTs (X.blk s H scope (compEnvC scope cl C X.env) fp) ifs (tmt G W0 mt))
    (he : ∀ (s : Shared) (H : Hp) (C : Addr) (cl : List (Str × Addr)) (fp : List Addr), Cc G (X.blk s H scope (compEnvC scope cl C X.env) fp) W0 → SE G (X.blk s H scope (compEnvC scope cl C X.env) fp) W0 elt me) (hs : ∀ x, foldedSetIterable iter X.env x = pure x := by intro _; rfl) :
    SE G X W (.ListComp elt [⟨tg, iter, ifs, 0⟩] scope pos) (eLcV mi t mt me (own.map (·.2)) n) :=
  se_lcv n cc hi ok hv (fun s H C cl fp => hg s H C cl fp (cc_blk cc)) (fun s H C cl fp => ht s H C cl fp (cc_blk cc)) (fun s H C cl fp => he s H C cl fp (cc_blk cc)) hs
end
end L2.Mi

set_option Elab.async false
set_option linter.all false
set_option maxRecDepth 100000
set_option maxHeartbeats 4000000
namespace L2.Mi
open PySem
def fin (r : RS) : Res D := match r with
  | .rt d S1 => .ok d S1
  | .nx _ S1 => .ok .non S1
  | .exc x _ S1 => .exc x S1
  | _ => .bad
section
variable {α β : Type} {σ σ' : En} {S S' : Store} {a b c : ME} {t u : MT} {k l : MS} {ms : List ME} {d e : D} {i j : Nat} {x : Xn} {f g : D → D → Store → Res D} {F : List D → Store → Res D}
@[simp] theorem fin_rt : fin (.rt d S) = .ok d S := (rfl)
@[simp] theorem bind_ok' {a : α} {f : α → Store → Res β} : (Res.ok a S).bind f = f a S := (rfl)
@[simp] theorem eC_ev : eC d σ S = .ok d S := (rfl)
@[simp] theorem eVar_0 : eVar 0 (some d :: σ) S = .ok d S := (rfl)
@[simp] theorem eVar_s {o : Option D} : eVar (i + 1) (o :: σ) S = eVar i σ S := by unfold eVar; rw [List.getElem?_cons_succ]
@[simp] theorem eBin_ev : eBin f a b σ S = (a σ S).bind fun x S1 => (b σ S1).bind fun y S2 => f x y S2 := (rfl)
@[simp] theorem aList_nil : aList [] σ S = .ok [] S := (rfl)
@[simp] theorem aList_cons : aList (a :: ms) σ S = (a σ S).bind fun x S1 => (aList ms σ S1).bind fun xs S2 => .ok (x :: xs) S2 := (rfl)
@[simp] theorem eTup_ev : eTup ms σ S = (aList ms σ S).bind fun xs S1 => .ok (.tup xs) S1 := (rfl)
@[simp] theorem eLv_ev : eLv ms σ S = (aList ms σ S).bind fun xs S1 => .ok (.lv xs) S1 := (rfl)
@[simp] theorem eLst_ev : eLst ms σ S = (aList ms σ S).bind fun xs S1 => .ok (.ref S1.size) (S1.push (.lst xs)) := (rfl)
@[simp] theorem eFn_ev {m : MA} : eFn F m σ S = (m σ S).bind F := (rfl)
@[simp] theorem tOf_ev : tOf a σ S = (a σ S).bind fun d S1 => match d with | .bl b => .ok b S1 | _ => .bad := (rfl)
@[simp] theorem tOr_ev : tOr t u σ S = (t σ S).bind fun c S1 => if c then .ok true S1 else u σ S1 := (rfl)
@[simp] theorem sNext_ev : sNext σ S = .nx σ S := (rfl)
@[simp] theorem sSeq_ev : sSeq k l σ S = (match k σ S with | .nx σ1 S1 => l σ1 S1 | r => r) := (rfl)
@[simp] theorem sRet_ev : sRet a σ S = (match a σ S with | .ok d S1 => .rt d S1 | .exc x S1 => .exc x σ S1 | .bad => .bad) := (rfl)
@[simp] theorem sIf_ev : sIf t k l σ S = (match t σ S with | .ok c S1 => (if c then k σ S1 else l σ S1) | .exc x S1 => .exc x σ S1 | .bad => .bad) := (rfl)
@[simp] theorem gName_ev : gName i d σ S = .ok (σ.set i (some d)) S := (rfl)
@[simp] theorem sAsg_ev {g : MG} : sAsg a g σ S = (match a σ S with | .ok d S1 => (match g d σ S1 with | .ok σ2 S2 => .nx σ2 S2 | _ => .bad) | .exc x S1 => .exc x σ S1 | .bad => .bad) := (rfl)
@[simp] theorem ltI_ev {i j : Int} : ltI (.int i) (.int j) S = .ok (.bl (decide (i < j))) S := (rfl)
@[simp] theorem gtI_ev {i j : Int} : gtI (.int i) (.int j) S = .ok (.bl (decide (j < i))) S := (rfl)
@[simp] theorem geI_ev {i j : Int} : geI (.int i) (.int j) S = .ok (.bl (decide (j ≤ i))) S := (rfl)
theorem mulF_ev {i j : Int} {o : D → D → Store → Res D} (h : mulOk i j = true) : mulF o (.int i) (.int j) S = .ok (.int (i * j)) S := by unfold mulF; simp only [h, if_true]
theorem modI_ev {i j : Int} (h : 0 < j) : modI (.int i) (.int j) S = .ok (.int (i % j)) S := by unfold modI intOp; simp [h]
theorem divI_ev {i j : Int} (h : divOk j = true) : divI (.int i) (.int j) S = .ok (.int (i / j)) S := by unfold divI intOp; simp [h]
theorem powI_ev {i j : Int} (h : powOk i j = true) : powI (.int i) (.int j) S = .ok (.int (i ^ j.toNat)) S := by unfold powI intOp; simp [h]
@[simp] theorem intF_ev {i : Int} : intF [.int i] S = .ok (.int i) S := (rfl)
@[simp] theorem intF_bl {i : Bool} : intF [.bl i] S = .ok (.int (if i then 1 else 0)) S := (rfl)
@[simp] theorem absF_ev {i : Int} : absF [.int i] S = .ok (.int (if i < 0 then -i else i)) S := (rfl)
end
theorem lenF_seq {S : Store} {d : D} {xs : List D} (h : seqAt S d = some xs) : lenF [d] S = .ok (.int xs.length) S := by
  unfold seqAt at h
  cases d with
  | tup ys => cases h; rfl
  | kt ys => cases h; rfl
  | lv ys => cases h; rfl
  | fl ys => cases h; rfl
  | ref i =>
    have h' : listAt S (.ref i) = some xs := h
    show (match listAt S (.ref i) with | some xs => Res.ok (D.int xs.length) S | none => .bad) = _
    rw [h']
  | _ => cases h
theorem itemF_seq {S : Store} {d x : D} {xs : List D} {i : Int} (h : seqAt S d = some xs) (hi : L2.atI xs i = some x) : itemF d (.int i) S = .ok x S := by
  unfold seqAt at h
  unfold itemF
  cases q : tupD d with
  | some ds =>
    rw [q] at h
    cases h
    simp only [hi]
  | none =>
    rw [q] at h
    have h' : listAt S d = some xs := h
    simp only [h', hi]
theorem atI_nat {α : Type} {xs : List α} {k : Nat} {x : α} (h : xs[k]? = some x) : L2.atI xs (k : Int) = some x := by
  have hl := (List.getElem?_eq_some_iff.mp h).1
  unfold L2.atI L2.ixN
  rw [if_pos (by omega), if_pos (by omega)]
  simpa using h
theorem seqAt_list {S : Store} {d : D} {xs : List D} (h : listAt S d = some xs) : seqAt S d = some xs := by
  unfold seqAt
  cases d with
  | tup ys => cases h
  | kt ys => cases h
  | _ => exact h
theorem dat_ints {n : Nat} {S : Store} : ∀ ps : List Int, mapO (dat n S) (ps.map D.int) = some (ps.map PyData.int)
  | [] => rfl
  | p :: ps => by
    have h : dat n S (.int p) = some (.int p) := by cases n <;> simp [dat]
    simp only [List.map_cons, mapO, h, dat_ints ps]
/-- tuples of ints -/
def tupI (ps : List Int) : D := .tup (ps.map D.int)
/-- d is a tuple of these ints -/
def TI (d : D) (ps : List Int) : Prop := tupD d = some (ps.map D.int)
theorem TI.of (ps : List Int) : TI (tupI ps) ps := rfl
theorem TI.seq {d : D} {ps : List Int} {S : Store} (h : TI d ps) : seqAt S d = some (ps.map D.int) := by
  unfold seqAt
  rw [show tupD d = some (ps.map D.int) from h]
theorem TI.dat {d : D} {ps : List Int} {n : Nat} {S : Store} (h : TI d ps) : dat (n + 1) S d = some (.tuple (ps.map PyData.int)) := by
  cases d with
  | tup xs => cases h; simp [L2.Mi.dat, dat_ints]
  | kt xs => cases h; simp [L2.Mi.dat, dat_ints]
  | _ => cases h
def Ext (S S' : Store) : Prop := ∀ i o, S.get i = some o → S'.get i = some o
theorem Ext.refl (S : Store) : Ext S S := fun _ _ h => h
theorem Ext.trans {a b c : Store} (h : Ext a b) (k : Ext b c) : Ext a c := fun i o e => k i o (h i o e)
theorem Ext.push {S : Store} {o : Ob} : Ext S (S.push o) := fun _ _ h => Store.get_push_some h
theorem listAt_ref {S : Store} {i : Nat} {ds : List D} (h : S.get i = some (.lst ds)) : listAt S (.ref i) = some ds := by
  unfold listAt
  simp only [h]
def Sm (b : Nat) (i : Int) : Prop := i.natAbs < 2 ^ b
theorem log2_le {n b : Nat} (h : n < 2 ^ b) : n.log2 ≤ b := by
  by_cases hn : n = 0
  · subst hn; simp
  · exact Nat.le_of_lt ((Nat.log2_lt hn).mpr h)
theorem Sm.mono {a b : Nat} {i : Int} (h : Sm a i) (hab : a ≤ b) : Sm b i := Nat.lt_of_lt_of_le h (Nat.pow_le_pow_right (by omega) hab)
theorem Sm.neg {a : Nat} {i : Int} (hi : Sm a i) : Sm a (-i) := by
  unfold Sm at *
  rwa [Int.natAbs_neg]
theorem Sm.zero {a : Nat} : Sm a 0 := Nat.pow_pos (by omega)
end L2.Mi

set_option Elab.async false
set_option linter.all false
set_option maxRecDepth 100000
set_option maxHeartbeats 1000000
namespace L2.Mi
open PySem
abbrev Op2 := D → D → Store → Res D
def takeM (oA oM : Op2) : MS :=
    sSeq (sIf (tOf (eBin gtI (eBin itemF (eVar 0) (eC (.int 0))) (eC (.int 0)))) (sSeq (sSet 2 (eBin modI (eFn intF (aList [eBin itemF (eVar 0) (eC (.int 0))])) (eVar 1)))
    (sSeq (sAsg (eBin divI (eBin itemF (eVar 0) (eC (.int 0))) (eVar 1)) (gSub (eVar 0) (eC (.int 0)) setL))
    (sRet (eVar 2)))) (sNext))
    (sSeq (sAsg (eBin modI (eFn intF (aList [eBin oA (eBin oM (eBin itemF (eVar 0) (eC (.int 1))) (eC (.int 48271))) (eC (.int 12345))])) (eC (.int 2147483647))) (gSub (eVar 0) (eC (.int 1)) setL))
    (sRet (eBin modI (eBin divI (eBin modI (eFn intF (aList [eBin oM (eBin itemF (eVar 0) (eC (.int 1))) (eBin itemF (eVar 0) (eC (.int 1)))])) (eC (.int 2147483629))) (eC (.int 64))) (eVar 1))))
/-- what is asked of + and * -/
structure OpsI (oA oM : Op2) : Prop where
  a : ∀ i j S, oA (.int i) (.int j) S = .ok (.int (i + j)) S
  m : ∀ i j S, mulOk i j = true → oM (.int i) (.int j) S = .ok (.int (i * j)) S
/-- a pool stands at i -/
def Pool (S : Store) (i : Nat) : Prop := ∃ h s : Int, S.get i = some (.lst [.int h, .int s]) ∧ 0 ≤ h ∧ 0 ≤ s ∧ s < 2147483647
theorem at0 {a b : D} : L2.atI [a, b] 0 = some a := rfl
theorem at1 {a b : D} : L2.atI [a, b] 1 = some b := rfl
theorem mulOk_l {i j : Int} (h1 : -(2 ^ 64) < i) (h2 : i < 2 ^ 64) : mulOk i j = true := by
  unfold mulOk
  simp only [Bool.or_eq_true, Bool.and_eq_true, decide_eq_true_eq]
  exact .inl (.inl ⟨h1, h2⟩)
theorem mulOk_r {i j : Int} (h1 : -(2 ^ 64) < j) (h2 : j < 2 ^ 64) : mulOk i j = true := by
  unfold mulOk
  simp only [Bool.or_eq_true, Bool.and_eq_true, decide_eq_true_eq]
  exact .inl (.inr ⟨h1, h2⟩)
theorem divOk_of {w : Int} (h : 0 < w) (h1 : w < 2 ^ 31) : divOk w = true := by
  unfold divOk
  rw [Bool.and_eq_true, decide_eq_true_eq, decide_eq_true_eq]
  refine ⟨h, ?_⟩
  have := log2_le (n := w.natAbs) (b := 31) (by omega)
  omega
theorem take_ok {oA oM : Op2} (O : OpsI oA oM) {S : Store} {i : Nat} {w : Int} (hp : Pool S i) (w0 : 0 < w) (w1 : w < 2 ^ 31) :
    ∃ r o, fin (takeM oA oM [some (.ref i), some (.int w), none] S) = .ok (.int r) (S.set i o) ∧ 0 ≤ r ∧ r < w ∧ Pool (S.set i o) i := by
  obtain ⟨h, s, hg, h0, s0, s1⟩ := hp
  have hi := Store.get_lt hg
  have i0 : itemF (.ref i) (.int 0) S = .ok (.int h) S := itemF_seq (seqAt_list (listAt_ref hg)) at0
  have i1 : itemF (.ref i) (.int 1) S = .ok (.int s) S := itemF_seq (seqAt_list (listAt_ref hg)) at1
  by_cases hh : 0 < h
  · refine ⟨h % w, .lst [.int (h / w), .int s], ?_, Int.emod_nonneg _ (by omega), Int.emod_lt_of_pos _ w0, ⟨h / w, s, Store.get_set_same hi, Int.ediv_nonneg h0 (by omega), s0, s1⟩⟩
    have hs : setL (.ref i) (.int 0) (.int (h / w)) S = some (S.set i (.lst [.int (h / w), .int s])) := by
      unfold setL
      simp only [hg]
      rfl
    unfold takeM
    simp only [sSeq_ev, sIf_ev, tOf_ev, eBin_ev, eVar_0, eVar_s, eC_ev, bind_ok', i0, gtI_ev, decide_eq_true hh, if_true, sAsg_ev, eFn_ev, aList_cons, aList_nil, intF_ev, modI_ev w0, gName_ev, List.set_cons_succ, List.set_cons_zero, divI_ev (divOk_of w0 w1), gSub, hs, sRet_ev, fin_rt]
  · have hs : ∀ z : Int, setL (.ref i) (.int 1) (.int z) S = some (S.set i (.lst [.int h, .int z])) := fun z => by
      unfold setL
      simp only [hg]
      rfl
    have p0 : (0 : Int) ≤ (s * 48271 + 12345) % 2147483647 := Int.emod_nonneg _ (by omega)
    have p1 : (s * 48271 + 12345) % 2147483647 < 2147483647 := Int.emod_lt_of_pos _ (by omega)
    have hg2 : (S.set i (.lst [.int h, .int ((s * 48271 + 12345) % 2147483647)])).get i = some (.lst [.int h, .int ((s * 48271 + 12345) % 2147483647)]) := Store.get_set_same hi
    have j1 : itemF (.ref i) (.int 1) (S.set i (.lst [.int h, .int ((s * 48271 + 12345) % 2147483647)])) = .ok (.int ((s * 48271 + 12345) % 2147483647)) (S.set i (.lst [.int h, .int ((s * 48271 + 12345) % 2147483647)])) := itemF_seq (seqAt_list (listAt_ref hg2)) at1
    refine ⟨(((s * 48271 + 12345) % 2147483647) * ((s * 48271 + 12345) % 2147483647)) % 2147483629 / 64 % w, .lst [.int h, .int ((s * 48271 + 12345) % 2147483647)], ?_, Int.emod_nonneg _ (by omega), Int.emod_lt_of_pos _ w0, ⟨h, _, hg2, h0, p0, p1⟩⟩
    unfold takeM
    have k1 := O.m s 48271 S (mulOk_r (by omega) (by omega))
    have k2 := O.m ((s * 48271 + 12345) % 2147483647) ((s * 48271 + 12345) % 2147483647) (S.set i (.lst [.int h, .int ((s * 48271 + 12345) % 2147483647)])) (mulOk_r (by omega) (by omega))
    simp only [sSeq_ev, sIf_ev, tOf_ev, eBin_ev, eVar_0, eVar_s, eC_ev, bind_ok', i0, i1, gtI_ev, decide_eq_false hh, Bool.false_eq_true, if_false, sNext_ev, sAsg_ev, eFn_ev, aList_cons, aList_nil, intF_ev, k1, O.a, modI_ev (show (0 : Int) < 2147483647 by omega), gSub, hs, sRet_ev, j1, k2, modI_ev (show (0 : Int) < 2147483629 by omega), divI_ev (divOk_of (show (0 : Int) < 64 by omega) (by omega)), modI_ev w0, fin_rt]
def poolM (lx : FN) (oA oM : Op2) : MS :=
    sSeq (sSet 2 (eC (.int 0)))
    (sSeq (sIf (tOf (eBin ltI (eVar 1) (eFn lx (aList [eVar 0])))) (sSet 2 (eBin itemF (eVar 0) (eVar 1))) (sNext))
    (sSeq (sSet 3 (eFn absF (aList [eVar 2])))
    (sSeq (sSet 4 (eBin modI (eBin oM (eFn intF (aList [eBin oA (eBin modI (eFn intF (aList [eVar 2])) (eC (.int 2147483629))) (eBin oM (eC (.int 104729)) (eBin oA (eVar 1) (eC (.int 1))))])) (eBin oA (eVar 1) (eC (.int 7)))) (eC (.int 2147483629))))
    (sSeq (sSet 5 (eBin modI (eBin oM (eBin modI (eFn intF (aList [eBin oM (eVar 4) (eVar 4)])) (eC (.int 2147483629))) (eC (.int 48271))) (eC (.int 2147483647))))
    (sRet (eLst [eBin oM (eVar 3) (eFn intF (aList [eBin geI (eVar 3) (eBin powI (eC (.int 10)) (eC (.int 18)))])), eVar 5]))))))
theorem pool_ok {lx : FN} {oA oM : Op2} (O : OpsI oA oM) {S : Store} {ns : List Int} {k : Nat} (hx : lx [.fl (ns.map D.int)] S = lenF [.fl (ns.map D.int)] S) (hk : k < 1000) (hl : ns.length ≤ 1000) :
    ∃ o, fin (poolM lx oA oM [some (.fl (ns.map D.int)), some (.int (k : Int)), none, none, none, none] S) = .ok (.ref S.size) (S.push o) ∧ Pool (S.push o) S.size := by
  have hc : ∃ c : Int, sIf (tOf (eBin ltI (eVar 1) (eFn lx (aList [eVar 0])))) (sSet 2 (eBin itemF (eVar 0) (eVar 1))) sNext [some (.fl (ns.map D.int)), some (.int (k : Int)), some (.int 0), none, none, none] S =
      .nx [some (.fl (ns.map D.int)), some (.int (k : Int)), some (.int c), none, none, none] S := by
    have hlen : lx [.fl (ns.map D.int)] S = .ok (.int ns.length) S := by
      rw [hx, lenF_seq (xs := ns.map D.int) rfl, List.length_map]
    by_cases h : k < ns.length
    · refine ⟨ns[k], ?_⟩
      have hi : itemF (.fl (ns.map D.int)) (.int (k : Int)) S = .ok (.int ns[k]) S := itemF_seq (xs := ns.map D.int) rfl (atI_nat (by simp [h]))
      simp only [sIf_ev, tOf_ev, eBin_ev, eVar_s, eVar_0, eFn_ev, aList_cons, aList_nil, bind_ok', hlen, ltI_ev, decide_eq_true (show (k : Int) < (ns.length : Int) by omega), if_true, sAsg_ev, hi, gName_ev, List.set_cons_succ, List.set_cons_zero]
    · refine ⟨0, ?_⟩
      simp only [sIf_ev, tOf_ev, eBin_ev, eVar_s, eVar_0, eFn_ev, aList_cons, aList_nil, bind_ok', hlen, ltI_ev, decide_eq_false (show ¬ (k : Int) < (ns.length : Int) by omega), Bool.false_eq_true, if_false, sNext_ev]
  obtain ⟨c, hc⟩ := hc
  have q1 : (0 : Int) < 2147483629 := by omega
  have q2 : (0 : Int) < 2147483647 := by omega
  have r0 := Int.emod_nonneg c (show (2147483629 : Int) ≠ 0 by omega)
  have r1 := Int.emod_lt_of_pos c q1
  have m1 : mulOk 104729 ((k : Int) + 1) = true := mulOk_l (by omega) (by omega)
  have m2 : mulOk (c % 2147483629 + 104729 * ((k : Int) + 1)) ((k : Int) + 7) = true := mulOk_r (by omega) (by omega)
  have b0 := Int.emod_nonneg ((c % 2147483629 + 104729 * ((k : Int) + 1)) * ((k : Int) + 7)) (show (2147483629 : Int) ≠ 0 by omega)
  have b1 := Int.emod_lt_of_pos ((c % 2147483629 + 104729 * ((k : Int) + 1)) * ((k : Int) + 7)) q1
  generalize hb : (c % 2147483629 + 104729 * ((k : Int) + 1)) * ((k : Int) + 7) % 2147483629 = bl at b0 b1
  have m3 : mulOk bl bl = true := mulOk_l (by omega) (by omega)
  have m4 : mulOk (bl * bl % 2147483629) 48271 = true := mulOk_r (by omega) (by omega)
  have s0 := Int.emod_nonneg (bl * bl % 2147483629 * 48271) (show (2147483647 : Int) ≠ 0 by omega)
  have s1 := Int.emod_lt_of_pos (bl * bl % 2147483629 * 48271) q2
  have a0 : (0 : Int) ≤ (if c < 0 then -c else c) := by split <;> omega
  generalize ha : (if c < 0 then -c else c) = hv at a0
  have pw : powOk 10 18 = true := by decide
  have f0 : (0 : Int) ≤ (if decide ((10 : Int) ^ (18 : Int).toNat ≤ hv) = true then 1 else 0) ∧ (if decide ((10 : Int) ^ (18 : Int).toNat ≤ hv) = true then (1 : Int) else 0) ≤ 1 := by split <;> omega
  have m5 : mulOk hv (if decide ((10 : Int) ^ (18 : Int).toNat ≤ hv) = true then 1 else 0) = true := mulOk_r (by omega) (by omega)
  refine ⟨_, ?_, ⟨hv * (if decide ((10 : Int) ^ (18 : Int).toNat ≤ hv) = true then 1 else 0), bl * bl % 2147483629 * 48271 % 2147483647, Store.get_push_same, Int.mul_nonneg a0 f0.1, s0, s1⟩⟩
  unfold poolM
  simp only [sSeq_ev, sAsg_ev, eC_ev, gName_ev, List.set_cons_succ, List.set_cons_zero, hc, eFn_ev, aList_cons, aList_nil, eVar_s, eVar_0, bind_ok', absF_ev, ha, eBin_ev, intF_ev, modI_ev q1, modI_ev q2, O.a, O.m _ _ _ m1, O.m _ _ _ m2, hb, O.m _ _ _ m3, O.m _ _ _ m4, sRet_ev, eLst_ev, powI_ev pw, geI_ev, intF_bl, O.m _ _ _ m5, fin_rt]
end L2.Mi

set_option Elab.async false
set_option linter.all false
set_option maxRecDepth 100000
set_option maxHeartbeats 4000000
namespace L2.Mi
open PySem PySem.Spec PyProof.Rows
structure XC (K : Fg) (C fI : Addr) : Prop where
  o : OexC K C
  x : XfC K C
  i : PySem.W.findIn K (.ref C) "__init__" = some (some (.ref fI))
  t : PySem.W.typeIn K (.ref fI) = some (.type "function")
theorem oexO_ok {K : Fg} {C : Addr} (h : oexO K C = true) : ∃ nm q N bs bm sn sub ab col dd k0 k1 k2 k3 k5, K.lookup C = some (excClassObj nm q C N bs bm true sn sub ab col dd k0 k1 k2 k3 k5 "ValueError.__new__") ∧ PySem.HandSPX.refsVE bm = true := by
  unfold oexO at h
  split at h
  · rename_i t dd cd sl look
    split at h
    · rename_i C2 bm k0 k1 k2 k3 n k5 e1 e2
      obtain ⟨a1, h⟩ := ba h
      obtain ⟨a2, h⟩ := ba h
      obtain ⟨a3, h⟩ := ba h
      obtain ⟨a4, h⟩ := ba h
      obtain ⟨a5, a6⟩ := ba h
      have b1 := of_decide_eq_true a1
      have b2 := of_decide_eq_true a2
      have b3 := of_decide_eq_true a3
      subst b1 b2 b3
      obtain ⟨z1, z2, z3, z4, z5, z6, z7, z8, z9, z10, z11⟩ := cd
      obtain ⟨sl0⟩ := sl
      simp only at e1 e2 a4 a5
      have a7 : z11 = false := by simpa using a4
      subst e1 e2 a5 a7
      exact ⟨_, _, _, _, _, _, _, _, _, _, _, _, _, _, _, look, a6⟩
    · cases h
  · cases h
theorem xc_of {L : Lw} {K : Fg} (c : L.Says K) (i : Nat) {C : Str} (h : L.fa[i]? = some (.oex C)) : XC K (He.ga K C) (He.ma K (He.ga K C) "__init__") := by
  obtain ⟨h1, z⟩ := ba (c.fact i h)
  obtain ⟨h2, z⟩ := ba z
  obtain ⟨h3, z⟩ := ba z
  obtain ⟨h4, z⟩ := ba z
  obtain ⟨h5, z⟩ := ba z
  obtain ⟨h6, h7⟩ := ba z
  obtain ⟨h8, h9⟩ := fnAt_ok h6
  exact ⟨⟨oexO_ok h1, He.eqO_ok h2, of_decide_eq_true h3, of_decide_eq_true h4, h5⟩, xfB_ok h7, h8, beq_iff_eq.mp h9⟩
def spX (K : Fg) (f : Str) : Sp := fun vs H Q _ => ∃ (a C : Addr) (v : V), vs = [.ref a, v] ∧ OexC K C ∧ PySem.W.findIn K (.ref C) f = some none ∧ H a = some (exo a C none) ∧
  ∀ dx, H dx = none → dx ≠ a → Q .non (upd (upd H dx (exd dx [(f, v)])) a (exo a C (some dx)))
section
variable {G : Gx} {X : Cx} {W : WX}
theorem passFalse : Passes (L2.CX X.prog X.w) X (fun _ _ _ => False) := fun _ _ _ _ _ _ _ h => by
  obtain ⟨_, _, _, _, _, _, _, _, _, _, _, _, z⟩ := h
  exact z.elim
end
end L2.Mi

set_option Elab.async false
set_option linter.all false
set_option maxRecDepth 100000
set_option maxHeartbeats 4000000
namespace L2.Mi
open PySem PySem.Spec PyProof.Rows
/-- a clause: its class, the slot of its name, what its return gives -/
structure Cls1 where
  c : Value
  i : Option Nat
  tx : Addr → Value → Option Addr → TE
def Cls1.put (q : Cls1) (a : Addr) (σ : St) : St := match q.i with
  | none => σ
  | some i => σ.set i (some (.ref a))
inductive ClOk (X : Cx) : List ExceptHandler → List Cls1 → Prop
  | nil : ClOk X [] []
  | bare {x : Str} {c : Value} {tx : Addr → Value → Option Addr → TE} {e : Expr} {np rp hp : Pos} {hs : List ExceptHandler} {l : List Cls1} (nm : Names X x c)
      (su : ∀ (a : Addr) (oe : Obj) (cls : Value) (d : Option Addr) (pn : List (Addr × Obj)), Zc cls d oe → (∃ vs, oe.data = .fields vs) → PE (X.suite a ((a, oe) :: pn)) e (tx a cls d)) (r : ClOk X hs l) :
      ClOk X (.ExceptHandler (some (.Name x np)) none [.Return (some e) rp] hp :: hs) (⟨c, none, tx⟩ :: l)
  | named {x n : Str} {c : Value} {i : Nat} {tx : Addr → Value → Option Addr → TE} {e : Expr} {np rp hp : Pos} {hs : List ExceptHandler} {l : List Cls1} (nm : Names X x c) (hi : X.N[i]? = some n) (lo : X.env.kindOf n = some .local)
      (su : ∀ (a : Addr) (oe : Obj) (cls : Value) (d : Option Addr) (pn : List (Addr × Obj)), Zc cls d oe → (∃ vs, oe.data = .fields vs) → PE (X.suite a ((a, oe) :: pn)) e (tx a cls d)) (r : ClOk X hs l) :
      ClOk X (.ExceptHandler (some (.Name x np)) (some n) [.Return (some e) rp] hp :: hs) (⟨c, some i, tx⟩ :: l)
abbrev MX := Xn → Store → Res D
section
variable (G : Gx) (i : Option Nat) (a : Addr) (cls : Value) (d : Option Addr)
def tmx (m : MX) : TE := fun σ H Q => ∃ ρ S x, Rl G ρ S H ∧ RX G ρ H x cls d ∧ (∀ j, i = some j → σ[j]? = some (some (.ref a))) ∧ Post G ρ H (m x S) Q (fun _ _ _ => False)
end
def SX (G : Gx) (X : Cx) (i : Option Nat) (e : Expr) (m : MX) : Prop :=
  ∀ (a : Addr) (oe : Obj) (cls : Value) (d : Option Addr) (pn : List (Addr × Obj)), Zc cls d oe → (∃ vs, oe.data = .fields vs) → PE (X.suite a ((a, oe) :: pn)) e (tmx G i a cls d m)
theorem RX.mono {G : Gx} {ρ ρ' : Wd} {H H' : Hp} {x : Xn} {cls : Value} {dd : Option Addr} (h : RX G ρ H x cls dd) (l : Le G ρ H ρ' H') : RX G ρ' H' x cls dd := by
  refine ⟨h.cls, ?_⟩
  rcases h.fs with h | ⟨d, us, e1, e2, r⟩
  · exact .inl h
  · exact .inr ⟨d, us, e1, l.tk d _ trivial e2, r.move l.mv⟩
structure Hd1 where
  c : Nat
  i : Option Nat
  m : MX
inductive ClS (G : Gx) (X : Cx) : List ExceptHandler → List Hd1 → Prop
  | nil : ClS G X [] []
  | bare {x : Str} {c : Nat} {C : Value} {e : Expr} {m : MX} {np rp hp : Pos} {hs : List ExceptHandler} {l : List Hd1} (nm : Names X x C) (hc : G.clsv c = some C) (su : SX G X none e m) (r : ClS G X hs l) :
      ClS G X (.ExceptHandler (some (.Name x np)) none [.Return (some e) rp] hp :: hs) (⟨c, none, m⟩ :: l)
  | named {x n : Str} {c i : Nat} {C : Value} {e : Expr} {m : MX} {np rp hp : Pos} {hs : List ExceptHandler} {l : List Hd1} (nm : Names X x C) (hc : G.clsv c = some C) (hi : X.N[i]? = some n) (lo : X.env.kindOf n = some .local) (su : SX G X (some i) e m) (r : ClS G X hs l) :
      ClS G X (.ExceptHandler (some (.Name x np)) (some n) [.Return (some e) rp] hp :: hs) (⟨c, some i, m⟩ :: l)
end L2.Mi

set_option Elab.async false
set_option linter.all false
set_option maxRecDepth 100000
set_option maxHeartbeats 4000000
namespace L2.Mi
open PySem PySem.Spec PyProof.Rows
abbrev NoG (A : Around) : Prop := A.guards = some []
/-- a def's promise where no guard stands -/
structure FnG (P : Program) (w : World) (K : Fg) (mg : Str → Option Value) (base : Heap) (cx : CXT) (k : Nat) (f : Addr) (fd : FuncData) (ps : List Str) (sp : Sp) : Prop where
  ln : ∀ vs H Q E, sp vs H Q E → vs.length = ps.length
  go : ∀ (A : Around) (out : List Env) (s : Shared) (H : Hp) (ar : Args) (us : List Value) (vs : List V) (Q : VK) (E : XK), NoG A → Room k A → Env0 P w K mg base A out s H → BindsTo s fd ar (ps.zip us) → Vals vs us → sp vs H Q E →
    codeAny (model P w) A (.call (.ref f) ar) (CR cx out P w H s Q E) s
section
variable {P : Program} {w : World} {K : Fg} {mg : Str → Option Value} {base : Heap} {cx : CXT} {k : Nat} {f : Addr} {name qual : Str} {params : Arguments} {body : List Stmt} {scope : Scope} {dvs : List V} {kws : List (Str × V)} {fd : FuncData} {N ps : List Str} {sp : Sp}
theorem fnG_of (F : FunD K name qual params body scope dvs kws f fd) (S : FnScope N ps scope) (ln : ∀ vs H Q E, sp vs H Q E → vs.length = ps.length)
    (hb : ∀ (cdv : Value) (A : Around) (out : List Env) (s : Shared) (H : Hp) (vs : List V) (Q : VK) (E : XK), NoG A → Room k (A.deeper (envOfC qual scope s.heap.objs.size f cdv)) → sp vs H Q E →
      ∃ t, PSs (cxOf cx P w K mg base N qual scope f cdv A out s H E) body t ∧ t { nx := fun _ H2 => Q .non H2, rt := Q } (start N vs) H) : FnG P w K mg base cx (k + 1) f fd ps sp := by
  obtain ⟨oc, od, dV, kV, doc, pm, an, cdv, ct, osl, e0, look, hcd, _, _⟩ := F.ex
  subst e0
  refine ⟨ln, fun A out s H ar us vs Q E ng room env bnd rel hs => ?_⟩
  have inK : K.In s.heap := env.mod.kin.keeps fun b o q => (env.bs b o q).1
  have nl : s.heap.NoLimit := env.mod.nolimit.keeps fun b o q => (env.bs b o q).1
  have par : ∀ y ∈ ps.zip us, scope.names.lookup y.1 = some .local ∨ (scope.names.lookup y.1 = some .cell ∧ ((cellsFrom (s.heap.objs.size + 1) scope.names []).lookup y.1).isSome = true) := by
    rintro ⟨a, b⟩ hy
    refine (S.par a (List.of_mem_zip hy).1).imp id fun q => ⟨q, PySem.W.cellsFrom_some _ _ _ (.inl q)⟩
  refine codeAny_call_function room.depth (inK _ _ look) rfl S.co S.gen rfl (PySem.W.codeRec_of inK hcd) (bnd _ _ _ _ (wpAny_newFunctionEnv_cells S.kind par fun env2 he s1 x => ?_))
  subst he
  refine ⟨nl.keeps x.toInCall.keep, codeAny_func ?_⟩
  obtain ⟨t, ht, q⟩ := hb cdv A out s H vs Q E ng (room.deeper _) hs
  have I : Inv (cxOf cx P w K mg base N qual scope f cdv A out s H E) [] (start N vs) H s1 := inv_start S room.hd env (ln _ _ _ _ hs) rel x
  refine wpAny_mono (ht.run [] s1 _ H _ I q) (fun fl s2 z => ?_) fun _ _ z => z
  cases fl with
  | ret u => obtain ⟨v, σ2, H2, J, rv, q2⟩ := z; exact ⟨v, H2, J.os, J.bare, J.base, J.hok, rv, q2⟩
  | next => obtain ⟨σ2, H2, J, q2⟩ := z; exact ⟨.non, H2, J.os, J.bare, J.base, J.hok, rfl, q2⟩
  | brk => obtain ⟨_, _, _, q2⟩ := z; exact q2.elim
  | cont => obtain ⟨_, _, _, q2⟩ := z; exact q2.elim
end
section
variable {G : Gx} {P : Program} {w : World} {mg : Str → Option Value} {base : Heap} {N ps : List Str} {x qual : Str} {params : Arguments} {body : List Stmt} {scope : Scope} {dvs : List V} {kws : List (Str × V)} {f : Addr} {fd : FuncData} {k : Nat} {ms : MS}
theorem fndG_ok (F : FunD G.K x qual params body scope dvs kws f fd) (S : FnScope N ps scope)
    (hb : ∀ (cdv : Value) (A : Around) (out : List Env) (s : Shared) (H : Hp) (E : XK), Room k (A.deeper (envOfC qual scope s.heap.objs.size f cdv)) → NoG (A.deeper (envOfC qual scope s.heap.objs.size f cdv)) →
      Cc G (cxOf (L2.CX P w) P w G.K mg base N qual scope f cdv A out s H E) (WF E) → SSs G (cxOf (L2.CX P w) P w G.K mg base N qual scope f cdv A out s H E) (WF E) body ms) :
    FnG P w G.K mg base (L2.CX P w) (k + 1) f fd ps (spF G (bodyRun N.length ms) ps.length) := by
  refine fnG_of F S (fun vs H Q E ⟨_, _, _, h, _⟩ => h) fun cdv A out s H vs Q E ng hr ⟨ρ, St, ds, hn, rl, rv, p⟩ => ?_
  refine ⟨_, hb cdv A out s H E hr ng ⟨rfl, takes_of rfl rfl rfl rfl, passes_of rfl, rfl, S.nd⟩, ρ, _, St, rl, re_start rv, ?_⟩
  unfold bodyRun at p
  cases q : ms (ds.map some ++ List.replicate (N.length - ds.length) none) St with
  | rt d S1 => rw [q] at p; exact p
  | nx σ1 S1 => rw [q] at p; exact fun ρ1 H1 σ2 l1 rl1 re1 => p ρ1 H1 .non l1 rl1 .non
  | exc y σ1 S1 => rw [q] at p; exact fun ρ1 H1 σ2 c dd l1 rl1 re1 rx => p ρ1 H1 c dd l1 rl1 rx
  | bk σ1 S1 => rw [q] at p; exact p.elim
  | ct σ1 S1 => rw [q] at p; exact p.elim
  | bad => rw [q] at p; exact p.elim
/-- a callable's promise where no guard stands -/
def CalG (G : Gx) (P : Program) (w : World) (mg : Str → Option Value) (base : Heap) (k : Nat) (f : Addr) (m : FN) : Prop :=
  ∀ (A : Around) (out : List Env) (s : Shared) (H : Hp) (us : List Value) (vs : List V) (Q : VK) (E : XK), NoG A → Room k A → Env0 P w G.K mg base A out s H → Vals vs us → spG G m vs H Q E →
    codeAny (model P w) A (.call (.ref f) ⟨us, []⟩) (CR (L2.CX P w) out P w H s Q E) s
theorem calG_defD {m : FN} {n : Nat} {dfl : List D} (F : FnG P w G.K mg base (L2.CX P w) k f fd ps (spF G m n)) (hn : n = ps.length) (hb : ∀ j, j ≤ dvs.length → ∃ ds, Vals (dvs.drop j) ds ∧ Binds G.K fd ps ds) (hdd : ∀ ρ H, RVs G ρ H dfl dvs) : CalG G P w mg base k f (callD n dfl m) := by
  rintro A out s H us vs Q E ng hr env rel ⟨ρ, S, es, rl, rv, p⟩
  unfold callD at p
  by_cases hl : es.length ≤ n ∧ n ≤ es.length + dfl.length
  · rw [if_pos hl] at p
    have e1 := (hdd ρ H).length
    obtain ⟨ds, r2, b2⟩ := hb (dfl.length + es.length - n) (by omega)
    have e2 : vs.length + (dvs.drop (dfl.length + es.length - n)).length = n := by rw [← rv.length, List.length_drop]; omega
    have inK : G.K.In s.heap := env.mod.kin.keeps fun b o q => (env.bs b o q).1
    refine F.go A out s H ⟨us, []⟩ (us ++ ds) (vs ++ dvs.drop (dfl.length + es.length - n)) Q E ng hr env (b2 s us inK ?_) (rel.append r2) ⟨ρ, S, _, ?_, rl, rv.append ((hdd ρ H).drop _), p⟩
    · rw [List.length_append, ← rel.length, ← r2.length, ← hn]; exact e2
    · rw [List.length_append]; exact e2
  · rw [if_neg hl] at p
    exact p.elim
theorem calG0 : CalG G P w mg base k f (fun _ _ => .bad) := by
  rintro A out s H us vs Q E ng hr env rel ⟨ρ, S, es, rl, rv, p⟩
  exact p.elim
theorem Cal.toG {m : FN} (h : Cal G P w mg base k f m) : CalG G P w mg base k f m := fun A out s H us vs Q E _ => h A out s H us vs Q E
end
section
variable {P : Program} {w : World} {K : Fg} {mg mb : Str → Option Value} {cx : CXT} {k : Nat} {fa a : Addr} {fd : FuncData} {x : Str} {sp : Sp} {s1 : Shared} {vs : List Value} {ns : List Int}
theorem law_callG (inK : K.In s1.heap) (hns : s1.heap.Ns mainGlobals mg) (hb : s1.heap.Ns builtinsNs mb) (hbb : ∀ x : Str, x ≠ "__name__" → mb x = bootBuiltins x) (nl : s1.heap.NoLimit) (hg : s1.gens = #[])
    (ha : s1.heap.get? a = some { cls := .type "list", data := .seq vs.toArray }) (hi : IntsAre vs ns) (hl : ns.length ≤ sizeLine) (hr : Room k callerA)
    (F : ∀ base : Heap, K.In base → base.Ns mainGlobals mg → FnG P w K mg base cx k fa fd [x] sp) (bnd : ∀ (s : Shared) (u : Value), BindsTo s fd ⟨[u], []⟩ [(x, u)])
    (hsp : ∀ H : Hp, Only H → SqL K H a (ns.map V.int) → sp [.ref a] H (fun v _ => v = .bl true) fun _ _ _ => False) (hcx : ∀ H e s2, cx [] H s1 (fun _ _ _ => False) e s2 → False) :
    codeAny (model P w) callerA (.call (.ref fa) ⟨[.ref a], []⟩) (fun r s2 => r = .ok (.ret (.bool true)) ∧ OldK s1.heap s2.heap ∧ s2.os = s1.os ∧ AllBare s2.gens) s1 := by
  have rel := vals_ints hi
  have len := hi.length
  have main : ∀ H : Hp, Only H → SqL K H a (ns.map V.int) → HOk P w H s1.heap → (∀ b, H b ≠ none → b = a) → (H a ≠ none → K.lookup a = none) →
      codeAny (model P w) callerA (.call (.ref fa) ⟨[.ref a], []⟩) (fun r s2 => r = .ok (.ret (.bool true)) ∧ OldK s1.heap s2.heap ∧ s2.os = s1.os ∧ AllBare s2.gens) s1 := by
    intro H only sq ok one out
    have free : ∀ {b : Addr} {o : Obj}, s1.heap.get? b = some o → (∀ c, b = a → H b = some c → False) → H b = none := fun {b o} e z => by
      cases q : H b with
      | none => rfl
      | some c => exact (z c (one b (by rw [q]; simp)) q).elim
    have nsk : ∀ {b : Addr} {m : Str → Option Value}, s1.heap.Ns b m → (hidT s1.heap H).Ns b m := fun {b m} ⟨o, es, ep, e, d, r⟩ => ⟨o, es, ep, hidT_get e (free e fun c e2 q => by
      subst e2
      rw [ha] at e
      cases e
      have d2 : Data.seq vs.toArray _ = Data.dict es ep := d
      cases d2), d, r⟩
    have hK : K.In (hidT s1.heap H) := fun b o e => hidT_get (inK b o e) (free (inK b o e) fun c e2 q => by
      subst e2
      rw [out (by rw [q]; simp)] at e
      cases e)
    have md : Mod K mg (hidT s1.heap H) := ⟨hK, nsk hns, ⟨mb, nsk hb, hbb⟩, let ⟨mc, z1, z2⟩ := nl; ⟨mc, nsk z1, z2⟩⟩
    have env : Env0 P w K mg (hidT s1.heap H) callerA [] s1 H := ⟨rfl, md, fun b o e => of_hidT e, Nat.le_of_eq (hidT_size _ _), trivial, fun b z => (List.not_mem_nil (show b ∈ ([] : List Addr) from z)).elim, ok, .of_eq hg⟩
    refine codeAny_mono ((F _ hK (nsk hns)).go callerA [] s1 H ⟨[.ref a], []⟩ [.ref a] [.ref a] _ _ rfl hr env (bnd s1 (.ref a)) (.cons rfl .nil) (hsp H only sq)) fun r s2 z => ?_
    cases r with
    | error e => exact (hcx H e s2 z).elim
    | ok fl => cases fl with
      | ret u =>
        obtain ⟨v, H2, z1, z2, un, ok2, rv, q⟩ := z
        have q2 : v = .bl true := q
        subst q2
        obtain rfl : u = Value.bool true := rv
        refine ⟨rfl, OldK.of_keep fun b o e => ?_, z1, z2⟩
        rcases only b with z | ⟨ob, xs, z⟩
        · exact un.keep b o e z (fun y => (List.not_mem_nil (show b ∈ ([] : List Addr) from y)).elim) (by simp)
        · have y1 := (ok b _ z).1
          have y2 := (ok2 b _ (un.frzs b ob _ z)).1
          rw [e] at y1
          cases y1
          exact y2
      | _ => exact False.elim z
  cases hk : K.lookup a with
  | some o =>
    have e := inK a o hk
    rw [ha] at e
    cases e
    exact main (fun _ => none) (fun _ => .inl rfl) (.inr ⟨_, vs.toArray, _, hk, rfl, rfl, rfl, by rw [List.size_toArray, len]; exact hl, by simpa using rel⟩) (fun b u z => nomatch (show (none : Option HO) = some u from z)) (fun b z => (z rfl).elim) fun z => (z rfl).elim
  | none =>
    let ob : HO := .frz { cls := .type "list", data := .seq vs.toArray } (.lst (ns.map V.int))
    have at1 : (fun b => if b = a then some ob else none : Hp) a = some ob := if_pos rfl
    have at2 : ∀ b, b ≠ a → (fun b => if b = a then some ob else none : Hp) b = none := fun b z => if_neg z
    refine main (fun b => if b = a then some ob else none) (fun b => ?_) (.inl (.inr ⟨_, at1⟩)) (fun b u z => ?_) (fun b z => ?_) fun _ => hk
    · by_cases q : b = a
      · subst q; exact .inr ⟨_, _, at1⟩
      · exact .inl (at2 b q)
    · by_cases q : b = a
      · subst q
        have z2 := at1.symm.trans z
        cases z2
        exact ⟨ha, by rw [List.length_map]; exact hl, vs, _, rel, ha⟩
      · have z2 := (at2 b q).symm.trans z
        cases z2
    · by_cases q : b = a
      · exact q
      · exact (z (at2 b q)).elim
end
theorem walkG {l : PySem.W.OpenLaw} {n k : Nat} {q : Program} {loose : List Str} {XP : (Str → Option Value) → Heap → Prop} {L : Lw} {N : Nat} {d : DefRec} {x : Str} {run : FN}
    (hn : l.most = some n) (hn2 : n ≤ sizeLine) (hdf : d.params.defaults = []) (hr : Room k callerA) (ht : L.tab = none)
    (F : ∀ (w : World) (mg : Str → Option Value) (fa : Addr) (K : Fg) (c : L.Says K), Ns K mg → mg d.name = some (.ref fa) →
      ∃ fd : FuncData, (∀ (s : Shared) (u : Value), BindsTo s fd ⟨[u], []⟩ [(x, u)]) ∧ ∀ base : Heap, K.In base → base.Ns mainGlobals mg → FnG l.prog w K mg base (L2.CX l.prog w) k fa fd [x] (spF (L.gx K c) run 1))
    (good : ∀ ns : List Int, ns.length ≤ n → (∀ z ∈ ns, Builtin.Int.intBits z ≤ 1048576) → ∃ S, run [.fl (ns.map D.int)] ⟨[]⟩ = .ok (.bl true) S) :
    PySem.W.WalkO q loose XP (L.hook N).says l.row.toRowW d [] (fun f vs => PySem.call f vs) := by
  refine Att.attach_callB hn hdf fun w s0 s1 mg mb fa o pm cd doc a vs ns T ⟨K, KX, c⟩ ho hd hcd hmg hobj hints hlen hbits hg => ?_
  obtain ⟨fd, hb, hF⟩ := F w mg fa K c ⟨_, KX, T.T.g⟩ hmg
  refine law_callG KX T.T.g T.T.b T.T.builtins T.T.nolimit hg hobj hints (Nat.le_trans hlen hn2) hr hF hb (fun H hO hS => ?_) fun H e s2 h => ?_
  · obtain ⟨rl, rv⟩ := start_ok (G := L.gx K c) (L.gx_tabs ht) hO hS
    obtain ⟨S, e⟩ := good ns hlen hbits
    refine ⟨⟨[], []⟩, ⟨[]⟩, _, rfl, rl, .cons rv .nil, ?_⟩
    rw [e]
    intro ρ2 H2 v _ _ r
    cases r
    rfl
  · obtain ⟨_, _, _, _, _, _, _, _, _, _, _, _, z⟩ := h
    exact z.elim
end L2.Mi

set_option Elab.async false
set_option linter.all false
set_option maxRecDepth 100000
set_option maxHeartbeats 4000000
namespace L2.Mi
open PySem PySem.Spec PyProof.Rows
def optAll {α β : Type} (f : α → Option β) : List α → Option (List β)
  | [] => some []
  | x :: xs => match f x, optAll f xs with
    | some y, some ys => some (y :: ys)
    | _, _ => none
/-- a value as plain data -/
def pyD (S : Store) : Nat → D → Option PyData
  | 0, _ => none
  | n + 1, d => match tupD d with
    | some ds => (optAll (pyD S n) ds).map .tuple
    | none => match listAt S d with
      | some ds => (optAll (pyD S n) ds).map .list
      | none => match d with
        | .non => some .none
        | .bl b => some (.bool b)
        | .int i => some (.int i)
        | .str x => some (.str ⟨x.toArray⟩)
        | _ => none
def reprOk (p : PyData) : Bool := p.showable && (!p.hasDict && (decide (p.shown.length ≤ sizeLine) && decide (p.depth ≤ 32)))
def reprF (n : Nat) : FN := fun xs S => match xs with
  | [d] => (match pyD S n d with
    | some p => if reprOk p then .ok (.str p.shown.cps.toList) S else .bad
    | none => .bad)
  | _ => .bad
section
variable {G : Gx} {X : Cx} {pins : List (Addr × Obj)} {σ : St} {H : Hp} {s : Shared}
theorem reads_all {S : Store} {ρ : Wd} {f : D → Option PyData} (h : ∀ d v u p, RV G ρ H d v → RelV v u → f d = some p → ∃ as, Reads s.heap u p as) :
    ∀ {ds : List D} {vs : List V} {us : List Value} {ps : List PyData}, RVs G ρ H ds vs → Vals vs us → optAll f ds = some ps → ∃ as, ReadsAll s.heap us ps as
  | _, _, _, _, .nil, .nil, e => by cases e; exact ⟨[], .nil⟩
  | d :: ds, v :: vs, u :: us, ps, .cons r1 r2, .cons k1 k2, e => by
    unfold optAll at e
    cases q1 : f d with
    | none => rw [q1] at e; cases e
    | some y =>
      cases q2 : optAll f ds with
      | none => rw [q1, q2] at e; cases e
      | some ys =>
        rw [q1, q2] at e
        cases e
        obtain ⟨a1, z1⟩ := h _ _ _ _ r1 k1 q1
        obtain ⟨a2, z2⟩ := reads_all (S := S) h r2 k2 q2
        exact ⟨_, .cons z1 z2⟩
theorem reads_of (hk : X.K = G.K) (I : Inv X pins σ H s) {ρ : Wd} {S : Store} (rl : Rl G ρ S H) : ∀ (n : Nat) (d : D) (v : V) (u : Value) (p : PyData), RV G ρ H d v → RelV v u → pyD S n d = some p → ∃ as, Reads s.heap u p as
  | 0, _, _, _, _, _, _, e => by cases e
  | n + 1, d, v, u, p, rv, r, e => by
    unfold pyD at e
    cases q : tupD d with
    | some ds =>
      rw [q] at e
      obtain ⟨a, xs, rfl, sq, rs⟩ := tupD_rel rv q
      obtain ⟨its, r2, ⟨o, g1, g2, m, g3⟩, _⟩ := I.tuple (by rw [hk]; exact sq)
      obtain rfl : u = Value.ref a := r
      cases q2 : optAll (pyD S n) ds with
      | none => simp only [q2] at e; cases e
      | some ps =>
        simp only [q2] at e
        cases e
        obtain ⟨as, z⟩ := reads_all (S := S) (reads_of hk I rl n) rs r2 q2
        exact ⟨as, .tuple g1 g2 g3 (by simpa using z)⟩
    | none =>
      rw [q] at e
      cases q1 : listAt S d with
      | some ds =>
        simp only [q1] at e
        obtain ⟨a, xs, rfl, sq, rs⟩ := listAt_rel rl rv q1
        obtain ⟨its, r2, ⟨o, m, g1, g2, _, g3⟩, _⟩ := I.list (by rw [hk]; exact sq)
        obtain rfl : u = Value.ref a := r
        cases q2 : optAll (pyD S n) ds with
        | none => simp only [q2] at e; cases e
        | some ps =>
          simp only [q2] at e
          cases e
          obtain ⟨as, z⟩ := reads_all (S := S) (reads_of hk I rl n) rs r2 q2
          exact ⟨_, .list g1 g2 g3 (by simpa using z)⟩
      | none =>
        simp only [q1] at e
        cases rv with
        | non => cases e; cases r; exact ⟨_, .none⟩
        | bl b => cases e; cases r; exact ⟨_, .bool b⟩
        | int i => cases e; obtain ⟨t, rfl⟩ := r; exact ⟨_, .int i t⟩
        | str y => cases e; obtain ⟨t, rfl⟩ := r; exact ⟨_, .str _ t⟩
        | _ => cases e
theorem fns_repr {W : WX} (n : Nat) (hk : X.K = G.K) (ng : NoG X.A) (hu : X.A.units + 64 < cLine) : FnS G X W (.builtin "repr") (reprF n) := by
  intro pins s σ H xs us Q ρ S ds I r rl rv p
  unfold reprF at p
  match ds, rv, p with
  | [d], .cons r1 .nil, p =>
    cases r with
    | cons k1 k2 =>
      cases k2
      cases q : pyD S n d with
      | none => simp only [q] at p; exact p.elim
      | some y =>
        simp only [q] at p
        by_cases hok : reprOk y = true
        · rw [if_pos hok] at p
          obtain ⟨o1, o2⟩ := ba hok
          obtain ⟨o2, o3⟩ := ba o2
          obtain ⟨o3, o4⟩ := ba o3
          have e3 := of_decide_eq_true o3
          have e4 := of_decide_eq_true o4
          have e2 : y.hasDict = false := by simpa using o2
          obtain ⟨as, z⟩ := reads_of hk I rl n d _ _ y r1 k1 q
          have fin : ∀ {h2 : Heap} {tk : Nat} {t : Tok}, (∀ b o, s.heap.get? b = some o → h2.get? b = some o) → EP X pins σ Q (.str y.shown t) { s with heap := h2, toks := tk } := fun kk => ⟨.str y.shown, H, I.kept (t' := _) kk, ⟨_, rfl⟩, post_ok p rl (rv_str _)⟩
          have nk : ∀ b o, s.heap.get? b = some o → s.heap.get? b = some o := fun _ _ z => z
          cases z with
          | none => exact PySem.P.repr_of_none (fin (h2 := s.heap) nk)
          | bool b =>
            have f2 := @fin s.heap (s.toks + 1) s.toks nk
            unfold PyData.shown at f2
            exact PySem.P.repr_of_bool f2
          | int i t =>
            have f2 := @fin s.heap (s.toks + 1) s.toks nk
            unfold PyData.shown at f2
            exact PySem.P.repr_of_int (by unfold PyData.showable at o1; exact of_decide_eq_true o1) f2
          | str x t =>
            have f2 := @fin s.heap (s.toks + 1) s.toks nk
            unfold PyData.shown at f2 e3
            exact PySem.P.repr_of_str f2 e3
          | list g1 g2 g3 g4 => exact repr_of_reads' (.list g1 g2 g3 g4) o1 (PyData.noDict_hsm e2) ng (by omega) nk (fun h2 t tk kk => fin kk) e3
          | tuple g1 g2 g3 g4 => exact repr_of_reads' (.tuple g1 g2 g3 g4) o1 (PyData.noDict_hsm e2) ng (by omega) nk (fun h2 t tk kk => fin kk) e3
          | dict g1 g2 g3 g4 g5 => cases e2
        · rw [if_neg hok] at p
          exact p.elim
  | [], _, p => exact p.elim
  | _ :: _ :: _, _, p => exact p.elim
end
end L2.Mi

set_option Elab.async false
set_option linter.all false
set_option maxRecDepth 100000
set_option maxHeartbeats 4000000
namespace L2.Mi
open PySem PySem.Spec PyProof.Rows
def flatD : D → Bool
  | .non => true
  | .bl _ => true
  | .int _ => true
  | .str _ => true
  | _ => false
/-- == of flat values -/
def eqD : D → D → Bool
  | .non, .non => true
  | .bl a, .bl b => a == b
  | .bl a, .int b => (if a then 1 else 0) == b
  | .int a, .bl b => a == (if b then 1 else 0)
  | .int a, .int b => a == b
  | .str a, .str b => a == b
  | _, _ => false
def seqD (S : Store) (d : D) : Option (List D) := match tupD d with
  | some ds => some ds
  | none => listAt S d
def inF (neg : Bool) : D → D → Store → Res D := fun x y S => match seqD S y with
  | some ds => if flatD x && ds.all flatD then .ok (.bl (if neg then !(ds.any fun z => eqD z x) else ds.any fun z => eqD z x)) S else .bad
  | none => match x, y with
    | .str [c], .str z => .ok (.bl (if neg then !decide (c ∈ z) else decide (c ∈ z))) S
    | _, _ => .bad
section
variable {G : Gx} {X : Cx} {W : WX} {ρ : Wd} {H : Hp} {S : Store}
theorem flat_rel {d : D} {v : V} (r : RV G ρ H d v) (h : flatD d = true) : flatV v = true := by
  cases r <;> first | rfl | cases h
theorem eq_rel {d e : D} {v u : V} (r1 : RV G ρ H d v) (r2 : RV G ρ H e u) (h1 : flatD d = true) (h2 : flatD e = true) : eqV v u = eqD d e := by
  cases r1 <;> (first | cases h1; done | skip) <;> cases r2 <;> (first | cases h2; done | rfl | skip)
  rename_i x y
  show ((⟨x.toArray⟩ : Str) == ⟨y.toArray⟩) = (x == y)
  by_cases h : x = y
  · subst h; simp
  · have n1 : ((⟨x.toArray⟩ : Str) == ⟨y.toArray⟩) = false := by
      refine beq_eq_false_iff_ne.mpr fun z => h ?_
      have z2 := congrArg (fun s : Str => s.cps.toList) z
      simpa using z2
    have n2 : (x == y) = false := beq_eq_false_iff_ne.mpr h
    rw [n1, n2]
theorem all_flat : ∀ {ds : List D} {vs : List V}, RVs G ρ H ds vs → ds.all flatD = true → vs.all flatV = true
  | _, _, .nil, _ => rfl
  | _, _, .cons r t, h => by
    rw [List.all_cons, Bool.and_eq_true] at h ⊢
    exact ⟨flat_rel r h.1, all_flat t h.2⟩
theorem any_eq {e : D} {u : V} (r2 : RV G ρ H e u) (h2 : flatD e = true) : ∀ {ds : List D} {vs : List V}, RVs G ρ H ds vs → ds.all flatD = true → (vs.any fun z => eqV z u) = ds.any fun z => eqD z e
  | _, _, .nil, _ => rfl
  | _, _, .cons r t, h => by
    rw [List.all_cons, Bool.and_eq_true] at h
    rw [List.any_cons, List.any_cons, eq_rel r r2 h.1 h2, any_eq r2 h2 t h.2]
theorem seqD_rel {d : D} {x : V} {ds : List D} (rl : Rl G ρ S H) (rv : RV G ρ H d x) (h : seqD S d = some ds) : ∃ a xs, x = .ref a ∧ (SqL G.K H a xs ∨ SqT G.K H a xs) ∧ RVs G ρ H ds xs := by
  unfold seqD at h
  cases q : tupD d with
  | some es =>
    simp only [q] at h
    cases h
    obtain ⟨a, xs, e, sq, r⟩ := tupD_rel rv q
    exact ⟨a, xs, e, .inr sq, r⟩
  | none =>
    simp only [q] at h
    obtain ⟨a, xs, e, sq, r⟩ := listAt_rel rl rv h
    exact ⟨a, xs, e, .inl sq, r⟩
theorem ops_inG {F : Value → Value → Sem Value} {neg : Bool} (cc : Cc G X W) (h1 : OpR X F (rIn X.K neg))
    (h2 : OpR X F (fun x y H Q => ∃ (c : Nat) (z : Str), x = .str ⟨#[c]⟩ ∧ y = .str z ∧ Q (.bl (if neg then !decide (c ∈ z.cps.toList) else decide (c ∈ z.cps.toList))) H)) : OpS G X W F (inF neg) := by
  intro pins s σ H x y v u Q ρ S d1 d2 I rx ry rl r1 r2 p
  unfold inF at p
  cases q : seqD S d2 with
  | some ds =>
    simp only [q] at p
    by_cases h : (flatD d1 && ds.all flatD) = true
    · rw [if_pos h] at p
      obtain ⟨f1, f2⟩ := ba h
      obtain ⟨a, xs, rfl, sq, rs⟩ := seqD_rel rl r2 q
      refine h1 pins s σ H _ _ v u Q I rx ry ⟨a, xs, rfl, by rw [cc.k]; exact sq, flat_rel r1 f1, all_flat rs f2, ?_⟩
      unfold inV
      rw [any_eq r1 f1 rs f2]
      exact post_ok p rl (.bl _)
    · rw [if_neg h] at p
      exact p.elim
  | none =>
    simp only [q] at p
    cases r1 with
    | str l =>
      match l, rx, p with
      | [c], rx, p =>
        cases r2 with
        | str z => exact h2 pins s σ H _ _ v u Q I rx ry ⟨c, _, rfl, rfl, by simpa using post_ok p rl (.bl _)⟩
        | _ => exact p.elim
      | [], _, p => cases r2 <;> exact p.elim
      | _ :: _ :: _, _, p => cases r2 <;> exact p.elim
    | _ => cases r2 <;> exact p.elim
theorem ops_notIn (cc : Cc G X W) : OpS G X W (compareOp .NotIn) (inF true) := ops_inG cc op_notIn_seq fun pins s σ H x y v u Q I rx ry ⟨c, z, e1, e2, q⟩ => op_notIn_sign pins s σ H x y v u Q I rx ry ⟨c, z, e1, e2, q⟩
def repF : D → D → Store → Res D := fun x y S => match tupD x, y with
  | some ds, .int k => if ds ≠ [] ∧ 2 ≤ k ∧ k ≤ 1000 ∧ ds.length ≤ 1000 then .ok (.tup (List.replicate k.toNat ds).flatten) S else .bad
  | _, _ => .bad
theorem ops_rep (cc : Cc G X W) : OpS G X W (binaryOp .Mult) repF := by
  intro pins s σ H x y v u Q ρ S d1 d2 I rx ry rl r1 r2 p
  unfold repF at p
  cases q : tupD d1 with
  | none => simp only [q] at p; exact p.elim
  | some ds =>
    cases r2 with
    | int k =>
      simp only [q] at p
      by_cases h : ds ≠ [] ∧ 2 ≤ k ∧ k ≤ 1000 ∧ ds.length ≤ 1000
      · rw [if_pos h] at p
        obtain ⟨h1, h2, h3, h4⟩ := h
        obtain ⟨a, xs, rfl, sq, rs⟩ := tupD_rel r1 q
        have rep : ∀ n, RVs G ρ H (List.replicate n ds).flatten (List.replicate n xs).flatten := fun n => by
          induction n with
          | zero => exact .nil
          | succ n ih => rw [List.replicate_succ, List.replicate_succ]; exact rs.append ih
        refine op_repT pins s σ H _ _ v u Q I rx ry ⟨a, k, xs, rfl, rfl, by rw [cc.k]; exact sq, fun z => h1 ?_, h2, h3, by rw [← rs.length]; exact h4, fun b hb => post_new p rl hb (.tup upd_same ((rep k.toNat).mono (Le.new hb)))⟩
        have e := rs.length
        rw [z] at e
        exact List.eq_nil_of_length_eq_zero (by simpa using e)
      · rw [if_neg h] at p
        exact p.elim
    | _ => simp only [q] at p; exact p.elim
structure LenS (G : Gx) (X : Cx) (c : Nat) (g : FN) : Prop where
  ex : ∃ C f k, G.cls c = some C ∧ PySem.W.findIn X.K (.ref C) "__len__" = some (some (.ref f)) ∧ PySem.W.isFn X.K (.ref f) = true ∧ FnR X.prog X.w X.K X.mg X.base (L2.CX X.prog X.w) k f (spG G g) ∧ Room (k + 1) X.A
end
end L2.Mi

set_option Elab.async false
set_option linter.all false
set_option maxRecDepth 100000
set_option maxHeartbeats 4000000
namespace L2.Mi
open PySem PySem.Spec PyProof.Rows
theorem two_le (n : Nat) : 2 ≤ lv n + 1 := by rw [lv_eq]; omega
def lsN (S : Store) : D → Option (List D)
  | .lv ds => some ds
  | .ref i => (match S.get i with | some (.lst ds) => some ds | _ => none)
  | _ => none
def catR : D → D → Store → Res D := fun x y S => match lsN S x, lsN S y with
  | some a, some b => if a.length + b.length ≤ lim then .ok (.ref S.size) (S.push (.lst (a ++ b))) else .bad
  | _, _ => .bad
section
variable {G : Gx} {X : Cx} {W : WX} {ρ : Wd} {H : Hp} {S : Store}
theorem lsN_rel {d : D} {x : V} {ds : List D} (rl : Rl G ρ S H) (rv : RV G ρ H d x) (h : lsN S d = some ds) : ∃ a xs, x = .ref a ∧ H a = some (.lst xs) ∧ RVs G ρ H ds xs := by
  cases rv with
  | lv n ht hr => cases h; exact ⟨_, _, rfl, ht, hr⟩
  | @ref i a hi =>
    unfold lsN at h
    cases q : S.get i with
    | none => simp only [q] at h; cases h
    | some o =>
      cases o with
      | lst es =>
        simp only [q] at h
        cases h
        obtain ⟨u, h1, h2⟩ := rl.at hi q
        cases h2 with
        | lst r => exact ⟨a, _, rfl, h1, r⟩
      | _ => simp only [q] at h; cases h
  | _ => cases h
theorem ops_catR : OpS G X W (binaryOp .Add) catR := by
  intro pins s σ H x y v u Q ρ S d1 d2 I rx ry rl r1 r2 p
  unfold catR at p
  cases q1 : lsN S d1 with
  | none => simp only [q1] at p; exact p.elim
  | some a =>
    cases q2 : lsN S d2 with
    | none => simp only [q1, q2] at p; exact p.elim
    | some b =>
      simp only [q1, q2] at p
      by_cases hl : a.length + b.length ≤ lim
      · rw [if_pos hl] at p
        obtain ⟨a1, xs, rfl, h1, k1⟩ := lsN_rel rl r1 q1
        obtain ⟨a2, ys, rfl, h2, k2⟩ := lsN_rel rl r2 q2
        refine op_cat pins s σ H _ _ v u Q I rx ry ⟨a1, a2, xs, ys, rfl, rfl, h1, h2, by rw [← k1.length, ← k2.length]; exact lim_le hl, fun z hz => ?_⟩
        exact p (ρ.push z) _ _ (Le.push hz) (rl.push hz (.lst (k1.append k2))) (RV.new rl)
      · rw [if_neg hl] at p
        exact p.elim
end
/-- the class C's __init__ sets f -/
structure XInit (P : Program) (w : World) (K : Fg) (mg : Str → Option Value) (base : Heap) (C f : Str) : Prop where
  ex : ∃ fd ps, FnOk P w K mg base (L2.CX P w) 1 (He.ma K (He.ga K C) "__init__") fd ps (spX K f) ∧ Binds K fd ps []
section
variable {L : Lw} {K : Fg} {c : L.Says K} {X : Cx} {W : WX} {C f : Str}
theorem clsv_of (c : L.Says K) (ci : Nat) (h : L.xcl[ci]? = some C) : (L.gx K c).clsv ci = some (.ref (He.ga K C)) := by
  show (L.xcl[ci]?).map (fun C => Value.ref (He.ga K C)) = _
  rw [h]
  rfl
theorem noat_of (c : L.Says K) (i : Nat) (h : L.fa[i]? = some (.noat C f)) : PySem.W.findIn K (.ref (He.ga K C)) f = some none := He.eqO_ok (c.fact i h)
def Fm.exq (A B : Str) : Fm → Option Bool
  | .exm A2 B2 b => if A2 = A ∧ B2 = B then some b else none
  | _ => none
def Lw.isx (L : Lw) (i j : Nat) : Option Bool := match L.xcl[i]?, L.xcl[j]? with
  | some A, some B => L.fa.findSome? (Fm.exq A B)
  | _, _ => none
end
end L2.Mi

set_option Elab.async false
set_option linter.all false
set_option maxRecDepth 100000
set_option maxHeartbeats 1000000
namespace L2.Mi
open PySem
def forL (g : MG) (b : MS) : List D → MS
  | [] => fun σ S => .nx σ S
  | d :: ds => fun σ S => match g d σ S with
    | .ok σ1 S1 => (match b σ1 S1 with
      | .nx σ2 S2 => forL g b ds σ2 S2
      | .ct σ2 S2 => forL g b ds σ2 S2
      | .bk σ2 S2 => .nx σ2 S2
      | r => r)
    | _ => .bad
theorem forL_cons {g : MG} {b : MS} {d : D} {ds : List D} {σ : En} {S : Store} : forL g b (d :: ds) σ S = (match g d σ S with
    | .ok σ1 S1 => (match b σ1 S1 with
      | .nx σ2 S2 => forL g b ds σ2 S2
      | .ct σ2 S2 => forL g b ds σ2 S2
      | .bk σ2 S2 => .nx σ2 S2
      | r => r)
    | _ => .bad) := (rfl)
theorem forGo_list {src : Src} {g : MG} {b : MS} {ds : List D} (h : ∀ k S, src k S = some ds[k]?) : ∀ (n k : Nat) (σ : En) (S : Store), ds.length < n + k → k ≤ ds.length → forGo src g b n k σ S = forL g b (ds.drop k) σ S
  | 0, k, σ, S, h1, h2 => absurd h1 (by omega)
  | n + 1, k, σ, S, h1, h2 => by
    unfold forGo
    rw [h k S]
    by_cases hk : k < ds.length
    · rw [List.getElem?_eq_getElem hk, List.drop_eq_getElem_cons hk, forL_cons]
      simp only
      cases g ds[k] σ S with
      | ok σ1 S1 =>
        simp only
        cases b σ1 S1 with
        | nx σ2 S2 => exact forGo_list h n (k + 1) σ2 S2 (by omega) (by omega)
        | ct σ2 S2 => exact forGo_list h n (k + 1) σ2 S2 (by omega) (by omega)
        | _ => rfl
      | _ => rfl
    · rw [List.getElem?_eq_none (by omega), List.drop_eq_nil_of_le (by omega)]
      rfl
/-- a value's items -/
def itsD : D → Option (List D)
  | .tup ds => some ds
  | .kt ds => some ds
  | .lv ds => some ds
  | .fl ds => some ds
  | _ => none
theorem src_its {m : ME} {σ : En} {S S1 : Store} {d : D} {ds : List D} (ha : m σ S = .ok d S1) (hd : itsD d = some ds) : ∃ src, iSeq m σ S = .ok src S1 ∧ ∀ k S, src k S = some ds[k]? := by
  unfold iSeq
  rw [ha, bind_ok']
  cases d <;> cases hd <;> exact ⟨_, rfl, fun k S => rfl⟩
end L2.Mi

set_option Elab.async false
set_option linter.all false
set_option maxRecDepth 100000
set_option maxHeartbeats 1000000
namespace L2.Mi
open PySem
mutual
def noRef : D → Bool
  | .ref _ => false
  | .tup ds => noRefs ds
  | .kt ds => noRefs ds
  | .ex _ _ ds => noRefs ds
  | .cx _ => true
  | .lv ds => noRefs ds
  | .fl ds => noRefs ds
  | .dv _ _ => false
  | .non => true
  | .bl _ => true
  | .int _ => true
  | .str _ => true
  | .ty _ => true
  | .cl _ => true
  | .fn _ => true
def noRefs : List D → Bool
  | [] => true
  | d :: ds => noRef d && noRefs ds
end
def noRefF : List (Nat × D) → Bool
  | [] => true
  | q :: r => noRef q.2 && noRefF r
section
variable {G : Gx} {ρ ρ2 : Wd} {H : Hp}
mutual
theorem RV.other (h : ∀ a, ρ.no a → ρ2.no a) : ∀ {d : D} {v : V}, noRef d = true → RV G ρ H d v → RV G ρ2 H d v
  | _, _, _, .non => .non
  | _, _, _, .bl b => .bl b
  | _, _, _, .int i => .int i
  | _, _, _, .str x => .str x
  | _, _, _, .ty n => .ty n
  | _, _, _, .cl q => .cl q
  | _, _, _, .fn q => .fn q
  | _, _, z, .ref _ => nomatch z
  | _, _, z, .tup q r => .tup q (RVs.other h (by simpa [noRef] using z) r)
  | _, _, z, .fl q r => .fl q (RVs.other h (by simpa [noRef] using z) r)
  | _, _, z, .kt q r => .kt q (RVs.other h (by simpa [noRef] using z) r)
  | _, _, _, .cx e => .cx e
  | _, _, z, .ex e q k r => .ex e q k (RVs.other h (by simpa [noRef] using z) r)
  | _, _, z, .lv n q r => .lv (h _ n) q (RVs.other h (by simpa [noRef] using z) r)
  | _, _, z, .dvK _ _ _ => by simp [noRef] at z
  | _, _, z, .dvT _ _ _ => by simp [noRef] at z
theorem RVs.other (h : ∀ a, ρ.no a → ρ2.no a) : ∀ {ds : List D} {vs : List V}, noRefs ds = true → RVs G ρ H ds vs → RVs G ρ2 H ds vs
  | _, _, _, .nil => .nil
  | _, _, z, .cons r t => by
    simp only [noRefs, Bool.and_eq_true] at z
    exact .cons (RV.other h z.1 r) (RVs.other h z.2 t)
end
theorem RFs.other (h : ∀ a, ρ.no a → ρ2.no a) : ∀ {fs : List (Nat × D)} {us : List (Str × V)}, noRefF fs = true → RFs G ρ H fs us → RFs G ρ2 H fs us
  | _, _, _, .nil => .nil
  | _, _, z, .cons r t => by
    simp only [noRefF, Bool.and_eq_true] at z
    exact .cons (r.other h z.1) (RFs.other h z.2 t)
/-- all that stands is hidden -/
def Wd.all (ρ : Wd) : Wd := ⟨[], ρ.v ++ ρ.h⟩
theorem Rl.some {S : Store} (r : Rl G ρ S H) {a : Addr} (h : a ∈ ρ.v) : SmO (H a) := by
  obtain ⟨i, hl, e⟩ := List.getElem_of_mem h
  obtain ⟨o, ho⟩ := Store.all (S := S) i (by rw [← r.len]; exact hl)
  obtain ⟨b, u, h1, h2, h3⟩ := r.ob i o ho
  rw [List.getElem?_eq_getElem hl, e] at h1
  cases h1
  rw [h2]
  exact h3.ntb
theorem Rl.all {S : Store} (r : Rl G ρ S H) : Rl G ρ.all ⟨[]⟩ H := by
  refine ⟨rfl, List.nodup_nil, fun a ha => ⟨by simp [Wd.all], ?_⟩, fun i o h => (nomatch (show (none : Option Ob) = Option.some o from h)), r.tb⟩
  rcases List.mem_append.mp ha with h | h
  · exact r.some h
  · exact (r.hh a h).2
end
end L2.Mi

set_option Elab.async false
set_option linter.all false
set_option maxRecDepth 100000
set_option maxHeartbeats 1000000
set_option Elab.async false
set_option linter.all false
set_option maxRecDepth 100000
set_option maxHeartbeats 1000000
namespace L2.Mi
open PySem PySem.Spec PyProof.Rows
def eqKD : D → D → Bool
  | .int i, .int j => i == j
  | .str x, .str y => x == y
  | _, _ => false
section
variable {G : Gx} {ρ : Wd} {H : Hp}
theorem RKs.append : ∀ {a b : List (D × D)} {x y : List (Key × V)}, RKs G ρ H a x → RKs G ρ H b y → RKs G ρ H (a ++ b) (x ++ y)
  | _, _, _, _, .nil, r => r
  | _, _, _, _, .cons h r t, s => .cons h r (RKs.append t s)
theorem RKs.len : ∀ {a : List (D × D)} {x : List (Key × V)}, RKs G ρ H a x → a.length = x.length
  | _, _, .nil => rfl
  | _, _, .cons _ _ t => by simp [RKs.len t]
end
end L2.Mi

set_option Elab.async false
set_option linter.all false
set_option maxRecDepth 100000
set_option maxHeartbeats 1000000
set_option Elab.async false
set_option linter.all false
set_option maxRecDepth 100000
set_option maxHeartbeats 1000000
set_option Elab.async false
set_option linter.all false
set_option maxRecDepth 100000
set_option maxHeartbeats 1000000
set_option Elab.async false
set_option linter.all false
set_option maxRecDepth 100000
set_option maxHeartbeats 1000000
namespace L2.Mi
open PySem PySem.Spec PyProof.Rows
section
variable {G : Gx} {X : Cx} {W : WX} {e tg : Expr} {m : ME}
theorem RKs.get {ρ : Wd} {H : Hp} : ∀ {kvs : List (D × D)} {kus : List (Key × V)} {i : Nat} {q : D × D}, RKs G ρ H kvs kus → kvs[i]? = some q → ∃ k v, kus[i]? = some (k, v) ∧ keyD q.1 = some k
  | _, _, _, _, .nil, h => by simp at h
  | _, _, 0, _, .cons (k := k) (v := v) h r t, q => by simp at q; subst q; exact ⟨k, v, rfl, h⟩
  | _, _, i + 1, q, .cons h r t, z => by
    obtain ⟨k, v, h1, h2⟩ := RKs.get (i := i) (q := q) t (by simpa using z)
    exact ⟨k, v, by simpa using h1, h2⟩
end
end L2.Mi

set_option Elab.async false
set_option linter.all false
set_option maxRecDepth 100000
set_option maxHeartbeats 1000000
set_option Elab.async false
set_option linter.all false
set_option maxRecDepth 100000
set_option maxHeartbeats 4000000
set_option Elab.async false
set_option linter.all false
set_option maxRecDepth 100000
set_option maxHeartbeats 4000000
namespace L2.Mi
open PySem PySem.Spec PyProof.Rows
section
variable {G : Gx} {X : Cx} {W : WX}
theorem Mv.show {v h : List Addr} {a : Addr} {H : Hp} : Mv G ⟨v, a :: h⟩ H ⟨v ++ [a], h⟩ H := by
  have nn : ∀ b, (⟨v, a :: h⟩ : Wd).no b → (⟨v ++ [a], h⟩ : Wd).no b := fun b n => by
    have n2 : b ≠ a ∧ b ∉ h := by simpa [Wd.no] using n.2
    exact ⟨by simp [n.1, n2.1], n2.2⟩
  exact ⟨fun i b e => pre_get (List.prefix_append _ _) e, fun _ _ _ q => q, fun b _ n q => ⟨nn b n, q⟩, fun b _ n _ q => ⟨nn b n, q⟩⟩
theorem RKs.mono {ρ ρ' : Wd} {H H' : Hp} (l : Le G ρ H ρ' H') {ds : List (D × D)} {vs : List (Key × V)} (r : RKs G ρ H ds vs) : RKs G ρ' H' ds vs := r.move l.mv
end
end L2.Mi

set_option Elab.async false
set_option linter.all false
set_option maxRecDepth 100000
set_option maxHeartbeats 4000000
set_option Elab.async false
set_option linter.all false
set_option maxRecDepth 100000
set_option maxHeartbeats 1000000
namespace L2.Mi
open PySem
def Res.sat {α : Type} (r : Res α) (Q : α → Store → Prop) (E : Xn → Store → Prop) : Prop := match r with
  | .ok a S => Q a S
  | .exc x S => E x S
  | .bad => False
/-- what is wanted behind a statement: next, return, exception, break, continue -/
structure Wt where
  n : En → Store → Prop
  r : D → Store → Prop
  e : Xn → Store → Prop := fun _ _ => False
  b : En → Store → Prop := fun _ _ => False
  c : En → Store → Prop := fun _ _ => False
def RS.sat (r : RS) (w : Wt) : Prop := match r with
  | .nx σ S => w.n σ S
  | .rt d S => w.r d S
  | .exc x _ S => w.e x S
  | .bk σ S => w.b σ S
  | .ct σ S => w.c σ S
  | .bad => False
abbrev NoX : Xn → Store → Prop := fun _ _ => False
section
variable {α β : Type} {S S1 : Store} {Q Q' : α → Store → Prop} {E E' : Xn → Store → Prop} {x : Xn} {a : α}
@[simp] theorem sat_ok : (Res.ok a S).sat Q E = Q a S := (rfl)
theorem Res.sat.imp {r : Res α} (h : r.sat Q E) (h1 : ∀ a S, Q a S → Q' a S) (h2 : ∀ x S, E x S → E' x S) : r.sat Q' E' := by
  cases r with
  | ok a S => exact h1 _ _ h
  | exc x S => exact h2 _ _ h
  | bad => exact h
theorem Res.sat.mono {r : Res α} (h : r.sat Q E) (h1 : ∀ a S, Q a S → Q' a S) : r.sat Q' E := h.imp h1 fun _ _ h => h
/-- an equation is as good -/
theorem sat_eq {r : Res α} (e : r = .ok a S) (h : Q a S) : r.sat Q E := by rw [e]; exact h
theorem sat_ex {r : Res α} (h : r.sat Q NoX) : ∃ a S, r = .ok a S ∧ Q a S := by
  cases r with
  | ok a S => exact ⟨a, S, rfl, h⟩
  | exc x S => exact h.elim
  | bad => exact h.elim
end
section
variable {σ σ' : En} {S S1 : Store} {w w' : Wt} {m a b : ME} {t : MT} {k l : MS} {d : D} {x : Xn} {i : Nat}
theorem RS.sat.imp {r : RS} (h : r.sat w) (h1 : ∀ σ S, w.n σ S → w'.n σ S) (h2 : ∀ d S, w.r d S → w'.r d S) (h3 : ∀ x S, w.e x S → w'.e x S) (h4 : ∀ σ S, w.b σ S → w'.b σ S) (h5 : ∀ σ S, w.c σ S → w'.c σ S) : r.sat w' := by
  cases r with
  | nx σ S => exact h1 _ _ h
  | rt d S => exact h2 _ _ h
  | exc x σ S => exact h3 _ _ h
  | bk σ S => exact h4 _ _ h
  | ct σ S => exact h5 _ _ h
  | bad => exact h
@[simp] theorem sat_seq : (sSeq k l σ S).sat w = (k σ S).sat { w with n := fun σ1 S1 => (l σ1 S1).sat w } := by
  unfold sSeq
  cases k σ S <;> rfl
@[simp] theorem sat_set : (sSet i m σ S).sat w = (m σ S).sat (fun d S1 => w.n (σ.set i (some d)) S1) w.e := by
  unfold sSet sAsg gName
  cases m σ S <;> rfl
/-- the end of a def -/
theorem sat_fin {r : RS} {Q : D → Store → Prop} {E : Xn → Store → Prop} (h : r.sat ⟨fun _ S => Q .non S, Q, E, fun _ _ => False, fun _ _ => False⟩) : (fin r).sat Q E := by
  cases r with
  | bk σ S => exact h.elim
  | ct σ S => exact h.elim
  | _ => exact h
/-- turn by turn over items; I: what stands ahead of each, by what is left -/
theorem forL_sat {g : MG} {b : MS} (I : List D → En → Store → Prop) {w : Wt} (step : ∀ d ds σ S, I (d :: ds) σ S → (g d σ S).sat (fun σ1 S1 => (b σ1 S1).sat ⟨I ds, w.r, w.e, w.n, I ds⟩) NoX) (done : ∀ σ S, I [] σ S → w.n σ S) :
    ∀ (ds : List D) (σ : En) (S : Store), I ds σ S → (forL g b ds σ S).sat w
  | [], σ, S, h => done σ S h
  | d :: ds, σ, S, h => by
    have z := step d ds σ S h
    rw [forL_cons]
    cases q : g d σ S with
    | ok σ1 S1 =>
      rw [q] at z
      simp only
      have z2 : (b σ1 S1).sat ⟨I ds, w.r, w.e, w.n, I ds⟩ := z
      cases q2 : b σ1 S1 with
      | nx σ2 S2 => rw [q2] at z2; exact forL_sat I step done ds σ2 S2 z2
      | ct σ2 S2 => rw [q2] at z2; exact forL_sat I step done ds σ2 S2 z2
      | bk σ2 S2 => rw [q2] at z2; exact z2
      | rt d S2 => rw [q2] at z2; exact z2
      | exc x σ2 S2 => rw [q2] at z2; exact z2
      | bad => rw [q2] at z2; exact z2
    | exc x S1 => rw [q] at z; exact z.elim
    | bad => rw [q] at z; exact z.elim
/-- what is walked in a for or a comprehension -/
def Walk (mi : MI) (σ : En) (S : Store) (ds : List D) (S1 : Store) : Prop := ∃ src, mi σ S = .ok src S1 ∧ ∀ k S, src k S = some ds[k]?
theorem walk_seq {m : ME} {σ : En} {S S1 : Store} {d : D} {ds : List D} (ha : m σ S = .ok d S1) (hd : itsD d = some ds) : Walk (iSeq m) σ S ds S1 := src_its ha hd
theorem for_sat {mi : MI} {g : MG} {b : MS} {n : Nat} {ds : List D} (I : List D → En → Store → Prop) {w : Wt} (hw : Walk mi σ S ds S1) (hn : ds.length < n) (h : I ds σ S1)
    (step : ∀ d ds σ S, I (d :: ds) σ S → (g d σ S).sat (fun σ1 S1 => (b σ1 S1).sat ⟨I ds, w.r, w.e, w.n, I ds⟩) NoX) (done : ∀ σ S, I [] σ S → w.n σ S) : (sFor mi g b n σ S).sat w := by
  obtain ⟨src, e, hs⟩ := hw
  unfold sFor
  rw [e]
  simp only
  rw [forGo_list hs n 0 σ S1 (by omega) (by omega)]
  exact forL_sat I step done ds σ S1 h
end
end L2.Mi

set_option Elab.async false
set_option linter.all false
set_option maxRecDepth 100000
set_option maxHeartbeats 1000000
namespace L2.Mi
open PySem
def LETS : List Nat := [97, 98, 99, 100, 101, 102, 103, 104, 105, 106, 107, 108, 109, 110, 111, 112, 113, 114, 115, 116, 117, 118, 119, 120, 121, 122]
def DIGS : List Nat := [48, 49, 50, 51, 52, 53, 54, 55, 56, 57]
def LD (c : Nat) : Bool := decide (c ∈ LETS) || decide (c ∈ DIGS)
abbrev MARK : List Nat := [109, 97, 114, 107]
abbrev NAME : List Nat := [110, 97, 109, 101]
abbrev BADW : List Nat := [98, 97, 100]
abbrev NUMB : List Nat := [110, 117, 109, 98, 101, 114]
abbrev ENDW : List Nat := [101, 110, 100]
/-- a text of true signs -/
def Txt (R : List Nat) : Prop := ∀ c ∈ R, c < 0x110000
theorem Txt.ok {R : List Nat} (h : Txt R) : PyData.strOk ⟨R.toArray⟩ = true := by
  unfold PyData.strOk
  simp only [List.all_toArray, List.all_eq_true, decide_eq_true_eq]
  exact h
theorem Txt.sub {a b : List Nat} (h : Txt b) (hs : ∀ c ∈ a, c ∈ b) : Txt a := fun c hc => h c (hs c hc)
theorem str_beq {a b : List Nat} : ((⟨a.toArray⟩ : Str) == ⟨b.toArray⟩) = (a == b) := by
  by_cases h : a = b
  · subst h; simp
  · have n1 : (a == b) = false := beq_eq_false_iff_ne.mpr h
    rw [n1]
    refine beq_eq_false_iff_ne.mpr fun z => h ?_
    have z2 := congrArg (fun s : Str => s.cps.toList) z
    simpa using z2
theorem neF_str {own : Op2} {a b : List Nat} {S : Store} (ha : Txt a) (hb : Txt b) : neF own (.str a) (.str b) S = .ok (.bl (!(a == b))) S := by
  simp [neF, dat, SeqAt.shaped, PyData.canLay0, PyData.depth, PyData.eqv, str_beq, ha.ok, hb.ok]
theorem Store.set_set {S : Store} {i : Nat} {o o' : Ob} : (S.set i o).set i o' = S.set i o' := by
  unfold Store.set
  simp
def allD (w : List Nat) : Bool := w.all fun c => decide (c ∈ DIGS)
def kindS (ks : List (List Nat)) (w : List Nat) : List Nat := if ks.any (· == w) then MARK else match w with
  | [] => BADW
  | c :: r => if decide (c ∈ LETS) then NAME else if allD (c :: r) then (if c == 48 && !r.isEmpty then BADW else NUMB) else BADW
end L2.Mi

set_option Elab.async false
set_option linter.all false
set_option maxRecDepth 100000
set_option maxHeartbeats 1000000
namespace L2.Mi
open PySem
structure Tok where
  k : List Nat
  w : List Nat
  p : Nat
def Tok.d (t : Tok) : D := .tup [.str t.k, .str t.w, .int (t.p : Int)]
/-- the tokens of a rest that stands at a -/
inductive Tk (sg : List Nat) (ks : List (List Nat)) : Nat → List Nat → List Tok → Prop
  | nil {a : Nat} : Tk sg ks a [] [⟨ENDW, [], a⟩]
  | gap {a c : Nat} {t : List Nat} {ts : List Tok} (h : c = 32 ∨ c = 10) (r : Tk sg ks (a + 1) t ts) : Tk sg ks a (c :: t) ts
  | sign {a c : Nat} {t : List Nat} {ts : List Tok} (h1 : c ≠ 32) (h2 : c ≠ 10) (h : c ∈ sg) (r : Tk sg ks (a + 1) t ts) : Tk sg ks a (c :: t) (⟨MARK, [c], a⟩ :: ts)
  | run {a : Nat} {w rest : List Nat} {ts : List Tok} (h0 : w ≠ []) (h1 : ∀ c ∈ w, LD c = true) (h2 : ∀ c t, rest = c :: t → LD c = false) (h3 : kindS ks w ≠ BADW) (r : Tk sg ks (a + w.length) rest ts) : Tk sg ks a (w ++ rest) (⟨kindS ks w, w, a⟩ :: ts)
  | odd {a c : Nat} {t : List Nat} (h1 : c ≠ 32) (h2 : c ≠ 10) (h : c ∉ sg) (h3 : LD c = false) : Tk sg ks a (c :: t) [⟨BADW, [], a⟩]
  | bad {a : Nat} {w rest : List Nat} (h0 : w ≠ []) (h1 : ∀ c ∈ w, LD c = true) (h2 : ∀ c t, rest = c :: t → LD c = false) (h3 : kindS ks w = BADW) : Tk sg ks a (w ++ rest) [⟨BADW, [], a⟩]
structure TokF (ks : List (List Nat)) (kd : D) (oE : Op2) (kF eF : FN) : Prop where
  kq : ∀ S, seqD S kd = some (ks.map D.str)
  eI : ∀ i j S, oE (.int i) (.int j) S = .ok (.bl (i == j)) S
  eS : ∀ a b S, Txt a → Txt b → oE (.str a) (.str b) S = .ok (.bl (a == b)) S
  kF : ∀ w S, w ≠ [] → w.length ≤ 90000 → Txt w → kF [.str w, kd] S = .ok (.str (kindS ks w)) S
  eF : ∀ (l r rest : List Nat) (a : Nat) S, l.length ≤ 90000 → l.drop a = r ++ rest → a ≤ l.length → (∀ c ∈ r, LD c = true) → (∀ c t, rest = c :: t → LD c = false) → eF [.str l, .int (a : Int)] S = .ok (.int ((a + r.length : Nat) : Int)) S
end L2.Mi

set_option Elab.async false
set_option linter.all false
set_option maxRecDepth 100000
set_option maxHeartbeats 1000000
namespace L2.Mi
open PySem
inductive PErr where
  | syn (p : Nat)
  | big (w : List Nat)
  | none
def Tok.is (t : Tok) (w : List Nat) : Bool := t.k == MARK && t.w == w
abbrev PR (β : Type) := Except PErr (β × List Tok)
inductive Fac where
  | num (v : Int) | nn | ctr (w : List Nat)
def Fac.d : Fac → D
  | .num v => .int v
  | .nn => .str [110]
  | .ctr w => .str w
def Fac.stop : Fac → Bool
  | .ctr _ => true
  | _ => false
structure Term where
  c : List Nat
  p : Nat
  v : Int
def andThen {α β : Type} (a : PR α) (f : α → List Tok → PR β) : PR β := match a with
  | .error e => .error e
  | .ok (x, r) => f x r
def Tok.ends (t : Tok) : Prop := t.k = ENDW ∨ t.k = BADW
def Stop (ts : List Tok) : Prop := ∃ p t, ts = p ++ [t] ∧ t.ends
theorem Stop.ne {ts : List Tok} (h : Stop ts) : ts ≠ [] := by
  obtain ⟨p, t, rfl, _⟩ := h
  simp
theorem Stop.cons {ts : List Tok} (h : Stop ts) : ∃ t r, ts = t :: r := by
  cases ts with
  | nil => exact absurd rfl h.ne
  | cons t r => exact ⟨t, r, rfl⟩
theorem Stop.tail {t : Tok} {r : List Tok} (h : Stop (t :: r)) (n : ¬ t.ends) : Stop r := by
  obtain ⟨p, u, e, hu⟩ := h
  cases p with
  | nil =>
    simp at e
    rw [← e.1] at hu
    exact absurd hu n
  | cons x p =>
    simp at e
    exact ⟨p, u, e.2, hu⟩
/-- a reader that goes on: less is left, and it is a rest -/
def Goes (r : List Tok) (r' : List Tok) : Prop := ∃ p, r = p ++ r' ∧ p ≠ [] ∧ Stop r'
theorem Goes.lt {r r' : List Tok} (h : Goes r r') : r'.length < r.length := by
  obtain ⟨p, rfl, hp, _⟩ := h
  have : 0 < p.length := List.length_pos_iff.mpr hp
  simp
  omega
theorem Goes.trans {a b c : List Tok} (h1 : Goes a b) (h2 : Goes b c) : Goes a c := by
  obtain ⟨p, rfl, hp, _⟩ := h1
  obtain ⟨q, rfl, hq, hs⟩ := h2
  exact ⟨p ++ q, by simp, by simp [hp], hs⟩
theorem Goes.one {t : Tok} {r : List Tok} (h : Stop (t :: r)) (n : ¬ t.ends) : Goes (t :: r) r := ⟨[t], rfl, by simp, h.tail n⟩
end L2.Mi

set_option Elab.async false
set_option linter.all false
set_option maxRecDepth 100000
set_option maxHeartbeats 1000000
set_option Elab.async false
set_option linter.all false
set_option maxRecDepth 100000
set_option maxHeartbeats 1000000
namespace L2.Mi
open PySem
theorem Goes.st {r r' : List Tok} (h : Goes r r') : Stop r' := by
  obtain ⟨_, _, _, h⟩ := h
  exact h
end L2.Mi

set_option Elab.async false
set_option linter.all false
set_option maxRecDepth 100000
set_option maxHeartbeats 1000000
namespace L2.Mi
open PySem
structure TokA (ks : List (List Nat)) (m : Nat) (t : Tok) : Prop where
  k : Txt t.k
  w : Txt t.w
  v : t.k = NUMB → t.w.length ≤ 150 → ∃ v, PySem.intText? ⟨t.w.toArray⟩ = some v
  n : t.k = NAME → ks.any (· == t.w) = false
  l : t.w.length ≤ m
end L2.Mi

set_option Elab.async false
set_option linter.all false
set_option maxRecDepth 100000
set_option maxHeartbeats 1000000
namespace L2.Mi
open PySem
theorem Tk.word {sg : List Nat} {ks : List (List Nat)} {a : Nat} {w rest K : List Nat} {ts : List Tok} (hk : kindS ks w = K) (hK : K ≠ BADW) (h0 : w ≠ []) (h1 : ∀ c ∈ w, LD c = true) (h2 : ∀ c t, rest = c :: t → LD c = false) (r : Tk sg ks (a + w.length) rest ts) : Tk sg ks a (w ++ rest) (⟨K, w, a⟩ :: ts) := by
  subst hk
  exact .run h0 h1 h2 hK r
theorem cutD_mem {α : Type} {l : List α} {lo hi : Option Int} {c : α} (h : c ∈ cutD l lo hi) : c ∈ l := List.mem_of_mem_drop (List.mem_of_mem_take h)
end L2.Mi

set_option Elab.async false
set_option linter.all false
set_option maxRecDepth 100000
set_option maxHeartbeats 1000000
namespace L2.Mi
open PySem
/-- all that stood stands, but what is at r -/
structure Fr (S S' : Store) (r : Nat) : Prop where
  sz : S.size ≤ S'.size
  same : ∀ j, j < S.size → j ≠ r → S'.get j = S.get j
theorem Fr.refl {S : Store} {r : Nat} : Fr S S r := ⟨Nat.le_refl _, fun _ _ _ => rfl⟩
theorem Fr.trans {S S1 S2 : Store} {r : Nat} (a : Fr S S1 r) (b : Fr S1 S2 r) : Fr S S2 r := ⟨Nat.le_trans a.sz b.sz, fun j h n => (b.same j (Nat.lt_of_lt_of_le h a.sz) n).trans (a.same j h n)⟩
theorem Fr.get {S S1 : Store} {r j : Nat} {o : Ob} (a : Fr S S1 r) (h : S.get j = some o) (n : j ≠ r) : S1.get j = some o := (a.same j (Store.get_lt h) n).trans h
theorem Fr.push {S : Store} {r : Nat} {o : Ob} : Fr S (S.push o) r := ⟨by rw [Store.size_push]; omega, fun j h _ => Store.get_push_lt h⟩
theorem Fr.set {S : Store} {r : Nat} {o : Ob} : Fr S (S.set r o) r := ⟨by rw [Store.size_set]; exact Nat.le_refl _, fun j _ n => Store.get_set_ne (Ne.symm n)⟩
theorem opsI_or {f g h k : Op2} : OpsI (opOr (addF f) h) (opOr (mulF g) k) := ⟨fun _ _ _ => rfl, fun i j S q => by unfold opOr; rw [mulF_ev q]; rfl⟩
theorem Pool.lt {S : Store} {i : Nat} (h : Pool S i) : i < S.size := by obtain ⟨_, _, h, _⟩ := h; exact Store.get_lt h
theorem Pool.keep {S S' : Store} {i : Nat} (h : Pool S i) (e : S'.get i = S.get i) : Pool S' i := by
  obtain ⟨a, b, h1, h2⟩ := h
  exact ⟨a, b, e.trans h1, h2⟩
theorem Pool.push {S : Store} {i : Nat} {o : Ob} (h : Pool S i) : Pool (S.push o) i := h.keep (Store.get_push_lt h.lt)
theorem Fr.other {S S' : Store} {r q : Nat} (f : Fr S S' r) (h : S.size ≤ r) : Fr S S' q := ⟨f.sz, fun j hj _ => f.same j hj (by omega)⟩
theorem Fr.any {S : Store} {r : Nat} : Fr S S r := Fr.refl
end L2.Mi

set_option Elab.async false
set_option linter.all false
set_option maxRecDepth 100000
set_option maxHeartbeats 1000000
namespace L2.Mi
open PySem
mutual
/-- plain data: no reference, texts in order, at most so deep -/
def okD : Nat → D → Bool
  | _, .non => true
  | _, .bl _ => true
  | _, .int _ => true
  | _, .str x => x.all (· < 0x110000)
  | n + 1, .tup ds => okDs n ds
  | n + 1, .kt ds => okDs n ds
  | n + 1, .lv ds => okDs n ds
  | _, _ => false
def okDs : Nat → List D → Bool
  | _, [] => true
  | n, d :: ds => okD n d && okDs n ds
end
mutual
def toP : D → PyData
  | .non => .none
  | .bl b => .bool b
  | .int i => .int i
  | .str x => .str ⟨x.toArray⟩
  | .tup ds => .tuple (toPs ds)
  | .kt ds => .tuple (toPs ds)
  | .lv ds => .list (toPs ds)
  | _ => .none
def toPs : List D → List PyData
  | [] => []
  | d :: ds => toP d :: toPs ds
end
theorem Txt.all {x : List Nat} (h : x.all (· < 0x110000) = true) : Txt x := fun c hc => by
  have := List.all_eq_true.mp h c hc
  simpa using this
mutual
theorem lay_ok : ∀ (n : Nat) (d : D), okD n d = true → (toP d).canLay0 = true ∧ (toP d).depth ≤ n
  | n, .non, _ => by unfold toP; simp [PyData.canLay0, PyData.depth]
  | n, .bl b, _ => by unfold toP; simp [PyData.canLay0, PyData.depth]
  | n, .int b, _ => by unfold toP; simp [PyData.canLay0, PyData.depth]
  | n, .str b, h => by
    have h' : b.all (· < 0x110000) = true := by cases n <;> (unfold okD at h; exact h)
    have := (Txt.all h').ok
    unfold toP
    simp [PyData.canLay0, PyData.depth, this]
  | 0, .tup ds, h => by unfold okD at h; cases h
  | 0, .kt ds, h => by unfold okD at h; cases h
  | 0, .lv ds, h => by unfold okD at h; cases h
  | n + 1, .tup ds, h => by
    unfold okD at h
    have z := lays_ok n ds h
    unfold toP
    simp only [PyData.canLay0, PyData.depth]
    exact ⟨z.1, by omega⟩
  | n + 1, .kt ds, h => by
    unfold okD at h
    have z := lays_ok n ds h
    unfold toP
    simp only [PyData.canLay0, PyData.depth]
    exact ⟨z.1, by omega⟩
  | n + 1, .lv ds, h => by
    unfold okD at h
    have z := lays_ok n ds h
    unfold toP
    simp only [PyData.canLay0, PyData.depth]
    exact ⟨z.1, by omega⟩
  | n, .ref _, h => by cases n <;> (unfold okD at h; cases h)
  | n, .ty _, h => by cases n <;> (unfold okD at h; cases h)
  | n, .dv _ _, h => by cases n <;> (unfold okD at h; cases h)
  | n, .ex _ _ _, h => by cases n <;> (unfold okD at h; cases h)
  | n, .cx _, h => by cases n <;> (unfold okD at h; cases h)
  | n, .cl _, h => by cases n <;> (unfold okD at h; cases h)
  | n, .fl _, h => by cases n <;> (unfold okD at h; cases h)
theorem lays_ok : ∀ (n : Nat) (ds : List D), okDs n ds = true → PyData.canLayAll0 (toPs ds) = true ∧ PyData.depthAll (toPs ds) ≤ n
  | n, [], _ => by unfold toPs; simp [PyData.canLayAll0, PyData.depthAll]
  | n, d :: ds, h => by
    unfold okDs at h
    rw [Bool.and_eq_true] at h
    have z1 := lay_ok n d h.1
    have z2 := lays_ok n ds h.2
    unfold toPs
    simp only [PyData.canLayAll0, PyData.depthAll, z1.1, z2.1, Bool.and_self]
    exact ⟨trivial, by omega⟩
end
end L2.Mi

set_option Elab.async false
set_option linter.all false
set_option maxRecDepth 100000
set_option maxHeartbeats 1000000
namespace L2.Mi
open PySem
theorem Txt.nil : Txt [] := fun c hc => nomatch hc
theorem Txt.one {c : Nat} (h : c < 0x110000) : Txt [c] := fun x hx => by simp at hx; subst hx; exact h
theorem Txt.cut {l : List Nat} {lo hi : Option Int} (h : Txt l) : Txt (cutD l lo hi) := h.sub fun c hc => cutD_mem hc
end L2.Mi

set_option Elab.async false
set_option linter.all false
set_option maxRecDepth 100000
set_option maxHeartbeats 4000000
namespace L2.Mi
open PySem PySem.Spec PyProof.Rows
section
variable {G : Gx} {X : Cx} {W : WX} {o e : Expr} {es : List Expr} {x name : Str} {p pos apos : Pos} {ma : MA} {mo : ME} {k : Nat} {f : FN}
structure CmS (G : Gx) (X : Cx) (c : Nat) (m : Str) (k : Nat) (f : FN) : Prop where
  ex : ∃ (C p g : Addr) (mc : Value), G.cls c = some C ∧ ClX.CRead X.K C mc ∧ ClX.CMet X.K C mc m p g ∧ Cal G X.prog X.w X.mg X.base k g f
inductive SJs (G : Gx) (X : Cx) (W : WX) : List Expr → List ME → Prop
  | nil : SJs G X W [] []
  | cons {e : Expr} {m : ME} {es : List Expr} {ms : List ME} (h : SE G X W e m) (r : SJs G X W es ms) : SJs G X W (e :: es) (m :: ms)
end
end L2.Mi

set_option Elab.async false
set_option linter.all false
set_option maxRecDepth 100000
set_option maxHeartbeats 4000000
set_option Elab.async false
set_option linter.all false
set_option maxRecDepth 100000
set_option maxHeartbeats 1000000
namespace L2.Mi
open PySem
mutual
/-- how long its text is at most; whole numbers of less than 1920 bits -/
def rsz : D → Nat
  | .str x => 10 * x.length + 2
  | .tup ds => rszs ds + 2
  | .kt ds => rszs ds + 2
  | .lv ds => rszs ds + 2
  | _ => 1921
def rszs : List D → Nat
  | [] => 0
  | d :: ds => rsz d + 2 + rszs ds
end
mutual
def intOk : D → Bool
  | .int i => decide (i.natAbs.log2 < 1920)
  | .tup ds => intOks ds
  | .kt ds => intOks ds
  | .lv ds => intOks ds
  | _ => true
def intOks : List D → Bool
  | [] => true
  | d :: ds => intOk d && intOks ds
end
theorem from_len : ∀ (ts : List Str) (k : Nat) (acc : Str), (textFrom k acc ts).length ≤ acc.length + piled ts
  | [], k, acc => by show acc.length ≤ _; omega
  | t :: ts, k, acc => by
    have z := from_len ts (k + 1) (acc ++ (if k > 0 then ", " else "" : String) ++ t)
    have h : ((if k > 0 then ", " else "" : String) : Str).length ≤ 2 := by
      by_cases hk : k > 0
      · rw [if_pos hk]; decide
      · rw [if_neg hk]; decide
    rw [strLen_append, strLen_append] at z
    have hp : piled (t :: ts) = t.length + 2 + piled ts := by simp [piled]
    rw [hp]
    show (textFrom (k + 1) _ ts).length ≤ _
    omega
theorem list_len (ts : List Str) : (listText ts).length ≤ piled ts + 2 := by
  have z := from_len ts 0 "["
  have h1 : ("[" : Str).length = 1 := by decide
  have h2 : ("]" : Str).length = 1 := by decide
  show (textFrom 0 "[" ts ++ "]").length ≤ _
  rw [strLen_append]
  omega
mutual
theorem shown_le : ∀ (n : Nat) (d : D), okD n d = true → intOk d = true → (toP d).shown.length ≤ rsz d ∧ (toP d).showable = true
  | n, .non, _, _ => by unfold toP; simp only [PyData.shown, PyData.showable]; exact ⟨by decide, trivial⟩
  | n, .bl b, _, _ => by unfold toP; simp only [PyData.shown, PyData.showable]; exact ⟨by cases b <;> decide, trivial⟩
  | n, .int i, _, hi => by
    unfold intOk at hi
    have h := of_decide_eq_true hi
    unfold toP
    simp only [PyData.shown, PyData.showable]
    refine ⟨?_, hi⟩
    have z := PyProof.Rows.int_text_len_1921 h
    unfold rsz
    exact z
  | n, .str x, h, _ => by
    have h' : x.all (· < 0x110000) = true := by cases n <;> (unfold okD at h; exact h)
    have hx := Txt.all h'
    unfold toP rsz
    simp only [PyData.shown, PyData.showable]
    refine ⟨?_, trivial⟩
    have z := StrLaws.reprText_len ⟨x.toArray⟩ fun c hc => by
      have := hx c (by simpa using hc)
      omega
    simpa [Str.length] using z
  | 0, .tup ds, h, _ => by unfold okD at h; cases h
  | 0, .kt ds, h, _ => by unfold okD at h; cases h
  | 0, .lv ds, h, _ => by unfold okD at h; cases h
  | n + 1, .tup ds, h, hi => by
    unfold okD at h
    unfold intOk at hi
    have z := showns_le n ds h hi
    have z2 := fmt_text (PyData.shownAll (toPs ds))
    unfold toP rsz
    simp only [PyData.shown, PyData.showable]
    exact ⟨by omega, z.2⟩
  | n + 1, .kt ds, h, hi => by
    unfold okD at h
    unfold intOk at hi
    have z := showns_le n ds h hi
    have z2 := fmt_text (PyData.shownAll (toPs ds))
    unfold toP rsz
    simp only [PyData.shown, PyData.showable]
    exact ⟨by omega, z.2⟩
  | n + 1, .lv ds, h, hi => by
    unfold okD at h
    unfold intOk at hi
    have z := showns_le n ds h hi
    have z2 := list_len (PyData.shownAll (toPs ds))
    unfold toP rsz
    simp only [PyData.shown, PyData.showable]
    exact ⟨by omega, z.2⟩
  | n, .ref _, h, _ => by cases n <;> (unfold okD at h; cases h)
  | n, .ty _, h, _ => by cases n <;> (unfold okD at h; cases h)
  | n, .dv _ _, h, _ => by cases n <;> (unfold okD at h; cases h)
  | n, .ex _ _ _, h, _ => by cases n <;> (unfold okD at h; cases h)
  | n, .cx _, h, _ => by cases n <;> (unfold okD at h; cases h)
  | n, .cl _, h, _ => by cases n <;> (unfold okD at h; cases h)
  | n, .fl _, h, _ => by cases n <;> (unfold okD at h; cases h)
theorem showns_le : ∀ (n : Nat) (ds : List D), okDs n ds = true → intOks ds = true → piled (PyData.shownAll (toPs ds)) ≤ rszs ds ∧ PyData.showableAll (toPs ds) = true
  | n, [], _, _ => by unfold toPs rszs; simp [PyData.shownAll, PyData.showableAll, piled]
  | n, d :: ds, h, hi => by
    unfold okDs at h
    unfold intOks at hi
    rw [Bool.and_eq_true] at h hi
    have z1 := shown_le n d h.1 hi.1
    have z2 := showns_le n ds h.2 hi.2
    unfold toPs rszs
    simp only [PyData.shownAll, PyData.showableAll, z1.2, z2.2, Bool.and_self]
    have hp : piled ((toP d).shown :: PyData.shownAll (toPs ds)) = (toP d).shown.length + 2 + piled (PyData.shownAll (toPs ds)) := by simp [piled]
    exact ⟨by omega, trivial⟩
end
mutual
theorem pyD_ok {S : Store} : ∀ (n k : Nat) (d : D), okD n d = true → pyD S (n + 1 + k) d = some (toP d)
  | n, k, .non, _ => by rw [show n + 1 + k = (n + k) + 1 by omega]; rfl
  | n, k, .bl b, _ => by rw [show n + 1 + k = (n + k) + 1 by omega]; rfl
  | n, k, .int b, _ => by rw [show n + 1 + k = (n + k) + 1 by omega]; rfl
  | n, k, .str b, _ => by rw [show n + 1 + k = (n + k) + 1 by omega]; rfl
  | 0, k, .tup ds, h => by unfold okD at h; cases h
  | 0, k, .kt ds, h => by unfold okD at h; cases h
  | 0, k, .lv ds, h => by unfold okD at h; cases h
  | n + 1, k, .tup ds, h => by
    unfold okD at h
    rw [show n + 1 + 1 + k = (n + 1 + k) + 1 by omega]
    unfold pyD toP
    simp only [tupD, pyDs_ok n k ds h]
    rfl
  | n + 1, k, .kt ds, h => by
    unfold okD at h
    rw [show n + 1 + 1 + k = (n + 1 + k) + 1 by omega]
    unfold pyD toP
    simp only [tupD, pyDs_ok n k ds h]
    rfl
  | n + 1, k, .lv ds, h => by
    unfold okD at h
    rw [show n + 1 + 1 + k = (n + 1 + k) + 1 by omega]
    unfold pyD toP
    simp only [tupD, listAt, pyDs_ok n k ds h]
    rfl
  | n, k, .ref _, h => by cases n <;> (unfold okD at h; cases h)
  | n, k, .ty _, h => by cases n <;> (unfold okD at h; cases h)
  | n, k, .dv _ _, h => by cases n <;> (unfold okD at h; cases h)
  | n, k, .ex _ _ _, h => by cases n <;> (unfold okD at h; cases h)
  | n, k, .cx _, h => by cases n <;> (unfold okD at h; cases h)
  | n, k, .cl _, h => by cases n <;> (unfold okD at h; cases h)
  | n, k, .fl _, h => by cases n <;> (unfold okD at h; cases h)
theorem pyDs_ok {S : Store} : ∀ (n k : Nat) (ds : List D), okDs n ds = true → optAll (pyD S (n + 1 + k)) ds = some (toPs ds)
  | _, _, [], _ => rfl
  | n, k, d :: ds, h => by
    unfold okDs at h
    rw [Bool.and_eq_true] at h
    unfold optAll toPs
    rw [pyD_ok n k d h.1, pyDs_ok n k ds h.2]
end
/-- the text of plain data -/
def rtx (d : D) : List Nat := (toP d).shown.cps.toList
theorem repr_ok {d : D} {S : Store} (n : Nat) (h : okD n d = true) (hn : n ≤ 7) (hi : intOk d = true) (hz : rsz d ≤ 10000000) : reprF 8 [d] S = .ok (.str (rtx d)) S := by
  have e : pyD S 8 d = some (toP d) := by
    have z := pyD_ok (S := S) n (7 - n) d h
    rwa [show n + 1 + (7 - n) = 8 by omega] at z
  obtain ⟨h1, h2⟩ := shown_le n d h hi
  obtain ⟨h3, h4⟩ := lay_ok n d h
  have ok : reprOk (toP d) = true := by
    unfold reprOk
    have h5 := PyData.hasDict_of_canLay _ h3
    have : sizeLine = 16777216 := sizeLine_eq
    rw [h2, h5, decide_eq_true (by omega), decide_eq_true (by omega)]
    rfl
  unfold reprF rtx
  simp only [e, ok, if_true]
end L2.Mi

set_option Elab.async false
set_option linter.all false
set_option maxRecDepth 100000
set_option maxHeartbeats 1000000
set_option Elab.async false
set_option linter.all false
set_option maxRecDepth 100000
set_option maxHeartbeats 4000000
namespace L2.Mi
open PySem PySem.Spec PyProof.Rows
theorem SmO.ex {o : Option HO} (h : SmO o) : ∃ u, o = some u ∧ NTb u := by
  cases o with
  | none => exact h.elim
  | some u => exact ⟨u, rfl, h⟩
theorem NTb.ne {u : HO} (h : NTb u) (ps : Array Value) : u ≠ .tbl ps := by
  rintro rfl
  exact h
end L2.Mi

set_option Elab.async false
set_option linter.all false
set_option maxRecDepth 100000
set_option maxHeartbeats 4000000
set_option Elab.async false
set_option linter.all false
set_option maxRecDepth 100000
set_option maxHeartbeats 4000000
namespace L2.Mi
open PySem PySem.Spec PyProof.Rows
structure CkS (G : Gx) (X : Cx) : Prop where
  k : X.K = G.K
end L2.Mi

set_option Elab.async false
set_option linter.all false
set_option maxRecDepth 100000
set_option maxHeartbeats 4000000
namespace L2.Mi
open PySem
variable {sg : List Nat} {ks : List (List Nat)}
/-- a number of free digits, none of them 0 -/
structure Num (w : List Nat) : Prop where
  ne : w ≠ []
  dg : ∀ c ∈ w, 49 ≤ c ∧ c ≤ 57
theorem Num.kind {w : List Nat} (h : Num w) (hk : ∀ k ∈ ks, ∀ c t, k = c :: t → 57 < c) (hn : ∀ k ∈ ks, k ≠ []) : kindS ks w = NUMB := by
  cases w with
  | nil => exact absurd rfl h.ne
  | cons c r =>
    obtain ⟨h1, h2⟩ := h.dg c (List.mem_cons_self ..)
    have e1 : (ks.any (· == c :: r)) = false := by
      rw [List.any_eq_false]
      intro k hk1 z
      have z := eq_of_beq z
      have := hk k hk1 c r z
      omega
    have e2 : decide (c ∈ LETS) = false := by
      rw [decide_eq_false_iff_not]
      unfold LETS
      simp only [List.mem_cons, List.not_mem_nil, or_false, not_or]
      omega
    have e3 : allD (c :: r) = true := by
      unfold allD
      rw [List.all_eq_true]
      intro x hx
      obtain ⟨g1, g2⟩ := h.dg x hx
      rw [decide_eq_true_eq]
      unfold DIGS
      simp only [List.mem_cons, List.not_mem_nil, or_false]
      omega
    have e4 : (c == 48) = false := by
      rw [beq_eq_false_iff_ne]
      omega
    unfold kindS
    simp only [e1, e2, e3, e4, Bool.false_eq_true, if_false, if_true, Bool.false_and]
end L2.Mi

set_option Elab.async false
set_option linter.all false
set_option maxRecDepth 100000
set_option maxHeartbeats 4000000
namespace L2.Mi
open PySem PySem.Spec PyProof.Rows
def matD (f : D → D → Store → Res D) (d : D) : List (Option D × MS) → MS
  | [] => sNext
  | (none, k) :: _ => k
  | (some c, k) :: r => fun σ S => match f d c S with
    | .ok (.bl true) S1 => k σ S1
    | .ok (.bl false) S1 => matD f d r σ S1
    | _ => .bad
structure SCs (G : Gx) (X : Cx) (W : WX) (f : D → D → Store → Res D) (cases : List MatchCase) (cs : List (Option D × MS)) : Prop where
  run : ∀ (first : Bool) (pins : List (Addr × Obj)) (s : Shared) (σ : St) (H : Hp) (v : Value) (x : V) (Dn : Ends) (ρ : Wd) (σs : En) (S : Store) (d : D), Inv X pins σ H s → RelV x v → Rl G ρ S H → RE G ρ H σs σ → RV G ρ H d x →
    PostS G ρ H (matD f d cs σs S) Dn W → wpAny (model X.prog X.w) X.A (matchCases cases X.env v first) (SP X pins Dn) X.xe s
end L2.Mi

set_option Elab.async false
set_option linter.all false
set_option maxRecDepth 100000
set_option maxHeartbeats 4000000
namespace L2.Mi
open PySem PySem.Spec PyProof.Rows
section
variable {G : Gx} {X : Cx} {W : WX} {o e : Expr} {es : List Expr} {m mo : ME} {ma r : MA} {p pos apos : Pos} {name : Str}
structure MethB (G : Gx) (X : Cx) (name : Str) (k c : Nat) (g : FN) : Prop where
  ex : ∃ C f, G.cls c = some C ∧ Cls X.K C ∧ BMeth X.K C name f ∧ Cal G X.prog X.w X.mg X.base k f g
end
end L2.Mi

set_option Elab.async false
set_option linter.all false
set_option maxRecDepth 100000
set_option maxHeartbeats 4000000
namespace L2.Mi
open PySem PySem.Spec PyProof.Rows
def eqKDs : List D → List D → Bool
  | [], [] => true
  | d :: ds, e :: es => eqKD d e && eqKDs ds es
  | _, _ => false
def eqKT : D → D → Bool
  | .tup ds, .tup es => eqKDs ds es
  | _, _ => false
def valT (kvs : List (D × D)) (k : D) : Option D := (kvs.find? fun q => eqKT q.1 k).map (·.2)
def putT (kvs : List (D × D)) (k v : D) : List (D × D) := if (kvs.any fun q => eqKT q.1 k) = true then kvs.map (fun q => if eqKT q.1 k then (q.1, v) else q) else kvs ++ [(k, v)]
section
variable {G : Gx} {ρ : Wd} {H : Hp}
theorem RTs.append : ∀ {a b : List (D × D)} {x y : List (List Key × V)}, RTs G ρ H a x → RTs G ρ H b y → RTs G ρ H (a ++ b) (x ++ y)
  | _, _, _, _, .nil, r => r
  | _, _, _, _, .cons h r t, s => .cons h r (RTs.append t s)
theorem RTs.len : ∀ {a : List (D × D)} {x : List (List Key × V)}, RTs G ρ H a x → a.length = x.length
  | _, _, .nil => rfl
  | _, _, .cons _ _ t => by simp [RTs.len t]
theorem RTs.mono {ρ' : Wd} {H' : Hp} (l : Le G ρ H ρ' H') {ds : List (D × D)} {vs : List (List Key × V)} (r : RTs G ρ H ds vs) : RTs G ρ' H' ds vs := r.move l.mv
end
section
variable {G : Gx} {ρ : Wd} {H : Hp} {S : Store} {X : Cx} {W : WX} {o e f i value : Expr} {mo me mf mv : ME} {pos pos' apos cpos : Pos}
theorem RTs.get : ∀ {kvs : List (D × D)} {kus : List (List Key × V)} {i : Nat} {q : D × D}, RTs G ρ H kvs kus → kvs[i]? = some q → ∃ k v, kus[i]? = some (k, v) ∧ keyT q.1 = some k
  | _, _, _, _, .nil, h => by simp at h
  | _, _, 0, _, .cons (k := k) (v := v) h r t, q => by simp at q; subst q; exact ⟨k, v, rfl, h⟩
  | _, _, i + 1, q, .cons h r t, z => by
    obtain ⟨k, v, h1, h2⟩ := RTs.get (i := i) (q := q) t (by simpa using z)
    exact ⟨k, v, by simpa using h1, h2⟩
end
end L2.Mi

set_option Elab.async false
set_option linter.all false
set_option maxRecDepth 100000
set_option maxHeartbeats 4000000
set_option Elab.async false
set_option linter.all false
set_option maxRecDepth 100000
set_option maxHeartbeats 4000000
set_option Elab.async false
set_option linter.all false
set_option maxRecDepth 100000
set_option maxHeartbeats 4000000
set_option Elab.async false
set_option linter.all false
set_option maxRecDepth 100000
set_option maxHeartbeats 4000000
set_option Elab.async false
set_option linter.all false
set_option maxRecDepth 100000
set_option maxHeartbeats 4000000
namespace L2.Mi
open PySem PySem.Spec PyProof.Rows
section
variable {G : Gx} {X : Cx} {W : WX} {ρ : Wd} {H : Hp} {S : Store}
theorem RVs.take {ds : List D} {xs : List V} : ∀ (n : Nat), RVs G ρ H ds xs → RVs G ρ H (ds.take n) (xs.take n)
  | 0, _ => by simp only [List.take_zero]; exact .nil
  | n + 1, .nil => by simp only [List.take_nil]; exact .nil
  | n + 1, .cons h t => by simp only [List.take_succ_cons]; exact .cons h (RVs.take n t)
theorem RVs.rep {ds : List D} {xs : List V} (r : RVs G ρ H ds xs) (n : Nat) : RVs G ρ H (List.replicate n ds).flatten (List.replicate n xs).flatten := by
  induction n with
  | zero => exact .nil
  | succ n ih => rw [List.replicate_succ, List.replicate_succ]; exact r.append ih
def repLk (ref : Bool) : D → D → Store → Res D := fun x y S => match lsN S x, y with
  | some ds, .int k => if 0 ≤ k ∧ k ≤ 1000 ∧ ds.length ≤ 1000 then (if ref then .ok (.ref S.size) (S.push (.lst (List.replicate k.toNat ds).flatten)) else .ok (.lv (List.replicate k.toNat ds).flatten) S) else .bad
  | _, _ => .bad
theorem ops_repL (ref : Bool) : OpS G X W (binaryOp .Mult) (repLk ref) := by
  intro pins s σ H x y v u Q ρ S d1 d2 I rx ry rl r1 r2 p
  unfold repLk at p
  cases q : lsN S d1 with
  | none => simp only [q] at p; exact p.elim
  | some ds =>
    cases r2 with
    | int k =>
      simp only [q] at p
      by_cases h : 0 ≤ k ∧ k ≤ 1000 ∧ ds.length ≤ 1000
      · rw [if_pos h] at p
        obtain ⟨h1, h2, h3⟩ := h
        obtain ⟨a, xs, rfl, ha, hr⟩ := lsN_rel rl r1 q
        have hz : xs.length * k.toNat ≤ sizeLine := by
          rw [sizeLine_eq, ← hr.length]
          have a1 : ds.length * k.toNat ≤ 1000 * 1000 := Nat.mul_le_mul h3 (by omega)
          omega
        refine op_rep pins s σ H _ _ v u Q I rx ry ⟨a, k, xs, rfl, rfl, ha, by omega, by omega, hz, fun b hb => ?_⟩
        cases ref with
        | true =>
          rw [if_pos rfl] at p
          exact p (ρ.push b) _ _ (Le.push hb) (rl.push hb (.lst (hr.rep _))) (RV.new rl)
        | false =>
          rw [if_neg Bool.false_ne_true] at p
          exact post_new p rl hb (.lv (rl.no hb) upd_same ((hr.rep _).mono (Le.new hb)))
      · rw [if_neg h] at p
        exact p.elim
    | _ => simp only [q] at p; exact p.elim
end
end L2.Mi

set_option Elab.async false
set_option linter.all false
set_option maxRecDepth 100000
set_option maxHeartbeats 4000000
namespace L2.Mi
open PySem PySem.Spec PyProof.Rows
structure Mk0 (K : PySem.W.Frag) (C : Addr) : Prop where
  makes : PySem.W.makesIn K C = true
  init : PySem.W.findIn K (.ref C) "__init__" = some (some (.builtin "object.__init__"))
section
variable {G : Gx} {X : Cx} {W : WX} {C : Addr} {c : Nat}
theorem shown {ρ1 ρ2 : Wd} {H1 H2 : Hp} {S1 S2 : Store} {Dl : Addr} {u0 u : HO} {o : Ob} (rl1 : Rl G ρ1 S1 H1) (hD : H1 Dl = none) (l3 : Le G ⟨ρ1.v, Dl :: ρ1.h⟩ (L2.upd H1 Dl u0) ρ2 H2) (rl2 : Rl G ρ2 S2 H2) (hDl : H2 Dl = some u) (ro : RO G ρ2 H2 o u) :
    Le G ρ1 H1 ⟨ρ2.v ++ [Dl], ρ1.h⟩ H2 ∧ Rl G ⟨ρ2.v ++ [Dl], ρ1.h⟩ (S2.push o) H2 ∧ RV G ⟨ρ2.v ++ [Dl], ρ1.h⟩ H2 (.ref S2.size) (.ref Dl) := by
  have hid : ρ2.h = Dl :: ρ1.h := l3.hid
  have hh1 : ∀ b, b ∈ ρ1.h → H1 b ≠ none := fun b hb => (rl1.hh b hb).2.ne
  have lo : Le G ρ1 H1 ⟨ρ2.v, ρ1.h⟩ H2 := Le.hide hD hh1 l3
  have e2 : ρ2 = ⟨ρ2.v, Dl :: ρ1.h⟩ := by rw [← hid]
  have nDv : Dl ∉ ρ2.v := (rl2.hh Dl (by rw [hid]; simp)).1
  have nDh : Dl ∉ ρ1.h := fun z => hh1 Dl z hD
  have mvs : Mv G ρ2 H2 ⟨ρ2.v ++ [Dl], ρ1.h⟩ H2 := by
    have z : Mv G ⟨ρ2.v, Dl :: ρ1.h⟩ H2 ⟨ρ2.v ++ [Dl], ρ1.h⟩ H2 := Mv.show
    rw [← e2] at z
    exact z
  refine ⟨⟨lo.pre.trans (List.prefix_append _ _), rfl, lo.tk, lo.kl, lo.kp, fun a na ha => ?_, lo.kh, lo.kz⟩, ⟨by simp [rl2.len, Store.size_push], ?_, fun a ha => ?_, fun j ob e => ?_, rl2.tb⟩, .ref (by rw [← rl2.len]; simp)⟩
  · have z := lo.ni a na ha
    have ne : a ≠ Dl := fun z => ha.ne (by rw [z]; exact hD)
    exact ⟨⟨by simp [z.1.1, ne], z.1.2⟩, z.2⟩
  · show (ρ2.v ++ [Dl]).Nodup
    rw [List.nodup_append]
    refine ⟨rl2.nd, by simp, fun a ha b hb => ?_⟩
    simp only [List.mem_singleton] at hb
    subst hb
    rintro rfl
    exact nDv ha
  · obtain ⟨h1, h2⟩ := rl2.hh a (by rw [hid]; exact List.mem_cons_of_mem _ ha)
    have ne : a ≠ Dl := fun z => nDh (by rw [← z]; exact ha)
    exact ⟨by simp [h1, ne], h2⟩
  · by_cases hj : j = S2.size
    · subst hj
      rw [Store.get_push_same] at e
      cases e
      exact ⟨Dl, u, by rw [← rl2.len]; simp, hDl, ro.move mvs⟩
    · rw [Store.get_push_ne hj] at e
      obtain ⟨a, w, h1, h2, h3⟩ := rl2.ob j ob e
      exact ⟨a, w, pre_get (List.prefix_append _ _) h1, h2, h3.move mvs⟩
end
end L2.Mi

set_option Elab.async false
set_option linter.all false
set_option maxRecDepth 100000
set_option maxHeartbeats 4000000
set_option Elab.async false
set_option linter.all false
set_option maxRecDepth 100000
set_option maxHeartbeats 4000000
set_option Elab.async false
set_option linter.all false
set_option maxRecDepth 100000
set_option maxHeartbeats 4000000
set_option Elab.async false
set_option linter.all false
set_option maxRecDepth 100000
set_option maxHeartbeats 4000000
set_option Elab.async false
set_option linter.all false
set_option maxRecDepth 100000
set_option maxHeartbeats 1000000
namespace L2.Mi
open PySem
/-- labels: of a Memory (mo .. wo), of a law's own player (pw .. en), others -/
inductive Lb where
  | mo (w : Nat) | mc (w : Nat) | mh (w : Nat) | ms (w l j : Nat) | mp (w l j : Nat) | ca (w : Nat) | wo (w : Nat)
  | pw | pt | ps | px | ph | pp (l j : Nat) | pe (l j : Nat) | pl (l j : Nat) | pb (l j : Nat) | en (l j i : Nat)
  | ot (n : Nat)
  deriving DecidableEq
abbrev LX := Lb → Option Ob
def up {L α : Type} [DecidableEq L] (X : L → α) (l : L) (o : α) : L → α := fun k => if k = l then o else X k
section
variable {L α : Type} [DecidableEq L] {X : L → α} {l k : L} {o o' : α}
@[simp] theorem up_same : up X l o l = o := by unfold up; rw [if_pos rfl]
theorem up_ne (h : k ≠ l) : up X l o k = X k := by unfold up; rw [if_neg h]
end
structure Rep (S : Store) (A : Lb → Nat) (X : LX) : Prop where
  get : ∀ l o, X l = some o → S.get (A l) = some o
  inj : ∀ l l' o o', X l = some o → X l' = some o' → A l = A l' → l = l'
namespace Rep
variable {S : Store} {A : Lb → Nat} {X : LX} {l : Lb} {o o' : Ob}
theorem lt (h : Rep S A X) (e : X l = some o) : A l < S.size := Store.get_lt (h.get l o e)
theorem set (h : Rep S A X) (e : X l = some o) (o' : Ob) : Rep (S.set (A l) o') A (up X l (some o')) := by
  refine ⟨fun k u z => ?_, fun k k' u u' z z' q => ?_⟩
  · by_cases hk : k = l
    · subst hk
      rw [up_same] at z
      cases z
      exact Store.get_set_same (h.lt e)
    · rw [up_ne hk] at z
      rw [Store.get_set_ne (fun q => hk (h.inj k l _ _ z e q.symm))]
      exact h.get k u z
  · have key : ∀ k u, up X l (some o') k = some u → ∃ v, X k = some v := fun k u z => by
      by_cases hk : k = l
      · subst hk; exact ⟨_, e⟩
      · rw [up_ne hk] at z; exact ⟨_, z⟩
    obtain ⟨v, hv⟩ := key k u z
    obtain ⟨v', hv'⟩ := key k' u' z'
    exact h.inj k k' v v' hv hv' q
theorem push (h : Rep S A X) : Rep (S.push o) A X := ⟨fun k u z => Store.get_push_some (h.get k u z), h.inj⟩
/-- a new thing, named -/
theorem new (h : Rep S A X) (e : X l = none) : Rep (S.push o) (up A l S.size) (up X l (some o)) := by
  have ne : ∀ k u, X k = some u → k ≠ l := fun k u z q => by subst q; rw [e] at z; cases z
  refine ⟨fun k u z => ?_, fun k k' u u' z z' q => ?_⟩
  · by_cases hk : k = l
    · subst hk
      rw [up_same] at z ⊢
      cases z
      exact Store.get_push_same
    · rw [up_ne hk] at z ⊢
      exact Store.get_push_some (h.get k u z)
  · by_cases hk : k = l
    · by_cases hk' : k' = l
      · rw [hk, hk']
      · rw [hk, up_same, up_ne hk'] at q
        rw [up_ne hk'] at z'
        have := h.lt z'
        omega
    · by_cases hk' : k' = l
      · rw [hk', up_same, up_ne hk] at q
        rw [up_ne hk] at z
        have := h.lt z
        omega
      · rw [up_ne hk, up_ne hk'] at q
        rw [up_ne hk] at z
        rw [up_ne hk'] at z'
        exact h.inj k k' _ _ z z' q
/-- less is known -/
theorem sub {Y : LX} (h : Rep S A X) (s : ∀ l o, Y l = some o → X l = some o) : Rep S A Y := ⟨fun l o e => h.get l o (s l o e), fun l l' o o' e e' q => h.inj l l' o o' (s l o e) (s l' o' e') q⟩
end Rep
end L2.Mi

set_option Elab.async false
set_option linter.all false
set_option maxRecDepth 100000
set_option maxHeartbeats 1000000
namespace L2.Mi.Me
open PySem
inductive Rle where
  | used | brought | second | tree
  deriving DecidableEq
structure Lev where
  sets : Nat
  ways : Nat
  rule : Rle
  thr : Bool
structure Ent where
  a : Int
  l : Int
  w : Bool
  n : Int
  deriving DecidableEq
abbrev Tg := Int × Int
inductive Ex where
  | non | sec (p : Nat) (lit : List Bool) | tree (b : List Bool)
structure SS where
  pl : List (Option Ent)
  ex : Ex
structure Cfg where
  line : Int
  lv : List Lev
  bs : List Int
structure MSt where
  st : Nat → Nat → SS
  sh : Nat → List Tg
  cnt : List (D × D)
  played : Int
def Ent.t (e : Ent) : Tg := (e.a, e.l)
def turnGo : Nat → Nat → List Bool → List Bool
  | 0, _, f => f
  | k + 1, n, f => if n = 0 then f else turnGo k ((n - 1) / 2) (f.set ((n - 1) / 2) (decide (n = 2 * ((n - 1) / 2) + 1)))
def turned (b : List Bool) (i : Nat) : List Bool := turnGo (i + b.length) (i + b.length) b
def kBack (l : Nat) : D := .tup [.str [98, 97, 99, 107], .int (l : Int)]
def cntOf (c : List (D × D)) (k : D) : Int := match valT c k with
  | some (.int i) => i
  | _ => 0
def noteC (c : List (D × D)) (k : D) : List (D × D) := putT c k (.int (cntOf c k + 1))
namespace MSt
def put (M : MSt) (l j : Nat) (s : SS) : MSt := { M with st := fun a b => if a = l ∧ b = j then s else M.st a b }
end MSt
def Cfg.lev (C : Cfg) (l : Nat) : Lev := (C.lv[l]?).getD ⟨1, 1, .used, false⟩
def others (t : Tg) (s : List Tg) : List Tg := s.filter fun o => !(o.1 == t.1 && o.2 == t.2)
def ExOk (r : Rle) (ways : Nat) : Ex → Prop
  | .non => r = .used ∨ r = .brought
  | .sec p lit => r = .second ∧ p < ways ∧ lit.length = ways
  | .tree b => r = .tree ∧ b.length = ways - 1
structure LevOk (v : Lev) : Prop where
  s0 : 1 ≤ v.sets
  s1 : v.sets ≤ 8
  w0 : 1 ≤ v.ways
  w1 : v.ways ≤ 4
  tr : v.rule = .tree → v.ways ≠ 3
structure SOk (v : Lev) (s : SS) : Prop where
  ln : s.pl.length = v.ways
  ex : ExOk v.rule v.ways s.ex
structure CntOk (c : List (D × D)) : Prop where
  iv : ∀ q ∈ c, ∃ i, q.2 = .int i
  kt : ∀ q ∈ c, ∃ ks, keyT q.1 = some ks
  dk : c.Pairwise fun p q => eqKT p.1 q.1 = false
def TgOk (C : Cfg) (t : Tg) : Prop := ∃ b, L2.atI C.bs t.1 = some b
structure MOk (C : Cfg) (M : MSt) : Prop where
  s : ∀ l v j, C.lv[l]? = some v → j < v.sets → SOk v (M.st l j)
  h : ∀ l v, C.lv[l]? = some v → (M.sh l).length ≤ v.sets * v.ways
  c : CntOk M.cnt
  t : ∀ l v j e, C.lv[l]? = some v → j < v.sets → some e ∈ (M.st l j).pl → TgOk C e.t
structure CfgOk (C : Cfg) : Prop where
  n : C.lv.length ≤ 3
  v : ∀ v ∈ C.lv, LevOk v
def fresh (v : Lev) : SS := ⟨List.replicate v.ways none, match v.rule with | .second => .sec 0 (List.replicate v.ways false) | .tree => .tree (List.replicate (v.ways - 1) false) | _ => .non⟩
def MSt.empty (C : Cfg) (M : MSt) : MSt := { M with st := fun l _ => fresh (C.lev l), sh := fun _ => [] }
end L2.Mi.Me

set_option Elab.async false
set_option linter.all false
set_option maxRecDepth 100000
set_option maxHeartbeats 1000000
set_option Elab.async false
set_option linter.all false
set_option maxRecDepth 100000
set_option maxHeartbeats 1000000
set_option Elab.async false
set_option linter.all false
set_option maxRecDepth 100000
set_option maxHeartbeats 1000000
namespace L2.Mi.Me
open PySem
section
variable {v : Lev} {s : SS} {i : Nat} {C : Cfg} {M : MSt}
theorem MOk.put (K : MOk C M) {l j : Nat} {s : SS} (h : ∀ v, C.lv[l]? = some v → j < v.sets → SOk v s) (ht : ∀ e, some e ∈ s.pl → TgOk C e.t) : MOk C (M.put l j s) := by
  refine ⟨fun a v b h1 h2 => ?_, K.h, K.c, fun a v b e h1 h2 h3 => ?_⟩
  · show SOk v (if a = l ∧ b = j then s else M.st a b)
    split
    · rename_i e
      rw [e.1] at h1
      rw [e.2] at h2
      exact h v h1 h2
    · exact K.s a v b h1 h2
  · have h3 : some e ∈ (if a = l ∧ b = j then s else M.st a b).pl := h3
    split at h3
    · exact ht e h3
    · exact K.t a v b e h1 h2 h3
/-- a deeper level does its part -/
structure Deep (C : Cfg) (c : Nat) (f : Tg → Bool → Int → MSt → MSt) : Prop where
  ok : ∀ t w n M, TgOk C t → MOk C M → MOk C (f t w n M) ∧ (f t w n M).cnt.length ≤ M.cnt.length + c
end
end L2.Mi.Me
namespace L2.Mi.Me
open PySem
def bk (l : Nat) (c : List (D × D)) (e : Option Ent) : List (D × D) := match e with
  | some o => if o.w then noteC c (kBack l) else c
  | none => c
def fPl (l : Nat) (c : List (D × D)) (pl : List (Option Ent)) : List (D × D) := pl.foldl (bk l) c
def fSet (M : MSt) (l : Nat) (c : List (D × D)) (js : List Nat) : List (D × D) := js.foldl (fun c j => fPl l c (M.st l j).pl) c
def fAll (C : Cfg) (M : MSt) (c : List (D × D)) (ls : List Nat) : List (D × D) := ls.foldl (fun c l => fSet M l c (List.range (C.lev l).sets)) c
def flush (C : Cfg) (M : MSt) : MSt := MSt.empty C { M with cnt := fAll C M M.cnt (List.range C.lv.length) }
end L2.Mi.Me

set_option Elab.async false
set_option linter.all false
set_option maxRecDepth 100000
set_option maxHeartbeats 1000000
set_option Elab.async false
set_option linter.all false
set_option maxRecDepth 100000
set_option maxHeartbeats 1000000
namespace L2.Mi.Me
open PySem
structure PEn where
  e : Ent
  u : Int
  b : Int
structure PS where
  pl : List (Option PEn)
  ptr : Nat
  lit : List Bool
  bits : List Bool
structure PSt where
  st : Nat → Nat → PS
  sh : Nat → List Tg
  cnt : List (D × D)
  clock : Int
namespace PSt
def put (P : PSt) (l j : Nat) (s : PS) : PSt := { P with st := fun a b => if a = l ∧ b = j then s else P.st a b }
end PSt
def pFresh (v : Lev) : PS := ⟨List.replicate v.ways none, 0, List.replicate v.ways false, List.replicate 3 false⟩
def PSt.empty (C : Cfg) (P : PSt) : PSt := { P with st := fun l _ => pFresh (C.lev l), sh := fun _ => [] }
structure POk1 (v : Lev) (s : PS) : Prop where
  ln : s.pl.length = v.ways
  pt : s.ptr < v.ways
  lt : s.lit.length = v.ways
  bt : s.bits.length = 3
structure POk (C : Cfg) (P : PSt) : Prop where
  s : ∀ l v j, C.lv[l]? = some v → j < v.sets → POk1 v (P.st l j)
  h : ∀ l v, C.lv[l]? = some v → (P.sh l).length ≤ v.sets * v.ways
  c : CntOk P.cnt
  t : ∀ l v j e, C.lv[l]? = some v → j < v.sets → some e ∈ (P.st l j).pl → TgOk C e.e.t
end L2.Mi.Me

set_option Elab.async false
set_option linter.all false
set_option maxRecDepth 100000
set_option maxHeartbeats 1000000
set_option Elab.async false
set_option linter.all false
set_option maxRecDepth 100000
set_option maxHeartbeats 1000000
namespace L2.Mi
open PySem L2.Mi.Me
def isFree (pl : List (Option PEn)) (i : Nat) : Bool := match pl[i]? with
  | some none => true
  | _ => false
def fl (pl : List (Option PEn)) : List Nat := (List.range pl.length).filter (isFree pl)
end L2.Mi
set_option Elab.async false
set_option linter.all false
set_option maxRecDepth 100000
set_option maxHeartbeats 1000000
set_option Elab.async false
set_option linter.all false
set_option maxRecDepth 100000
set_option maxHeartbeats 1000000
namespace L2.Mi.Me
open PySem
abbrev fm (l : List (Option PEn)) : List PEn := l.filterMap id
def ents (l : List (Option PEn)) : List (Option Ent) := l.map fun x => x.map PEn.e
def pad (n : Nat) (o : List PEn) : List (Option Ent) := (o.map fun e => some e.e) ++ List.replicate (n - o.length) none
structure OrdS (τ : PEn → Int) (s : SS) (p : PS) (o : List PEn) : Prop where
  pm : o.Perm (fm p.pl)
  dec : o.Pairwise fun a b => τ b < τ a
  eq : s.pl = pad p.pl.length o
def SimS (r : Rle) (s : SS) (p : PS) : Prop := match r with
  | .used => ∃ o, OrdS PEn.u s p o
  | .brought => ∃ o, OrdS PEn.b s p o
  | .second => s.pl = ents p.pl ∧ s.ex = .sec p.ptr p.lit ∧ ∀ i : Nat, p.lit[i]? = some true → p.pl[i]? ≠ some none
  | .tree => s.pl = ents p.pl ∧ s.ex = .tree (p.bits.take (p.pl.length - 1))
def Dist (p : PS) : Prop := (fm p.pl).Pairwise fun a b => a.e.t ≠ b.e.t
def Old (k : Int) (p : PS) : Prop := ∀ e ∈ fm p.pl, e.u ≤ k ∧ e.b ≤ k
theorem fm_len (l : List (Option PEn)) : (fm l).length ≤ l.length := List.length_filterMap_le _ _
end L2.Mi.Me

set_option Elab.async false
set_option linter.all false
set_option maxRecDepth 100000
set_option maxHeartbeats 1000000
namespace L2.Mi.Me
open PySem
section
variable {τ : PEn → Int} {s : SS} {p : PS} {o : List PEn} {v : Lev} {t : Tg}
theorem OrdS.len (O : OrdS τ s p o) : o.length ≤ p.pl.length := by rw [O.pm.length_eq]; exact fm_len _
end
end L2.Mi.Me

set_option Elab.async false
set_option linter.all false
set_option maxRecDepth 100000
set_option maxHeartbeats 1000000
set_option Elab.async false
set_option linter.all false
set_option maxRecDepth 100000
set_option maxHeartbeats 1000000
namespace L2.Mi.Me
open PySem
structure Sim (C : Cfg) (M : MSt) (P : PSt) : Prop where
  s : ∀ l j, l < C.lv.length → j < (C.lev l).sets → SimS (C.lev l).rule (M.st l j) (P.st l j)
  d : ∀ l j, l < C.lv.length → j < (C.lev l).sets → Dist (P.st l j)
  o : ∀ l j, l < C.lv.length → j < (C.lev l).sets → Old P.clock (P.st l j)
  h : M.sh = P.sh
  c : M.cnt = P.cnt
theorem Old.mono {a b : Int} {p : PS} (h : Old a p) (hab : a ≤ b) : Old b p := fun e he => by
  have := h e he
  omega
section
variable {C : Cfg} {M : MSt} {P : PSt} {l j : Nat} {t : Tg} {w : Bool} {n : Int} {f : Tg → Bool → Int → MSt → MSt} {g : Tg → Bool → Int → PSt → PSt}
theorem Sim.put (Z : Sim C M P) {s : SS} {p : PS} (h : SimS (C.lev l).rule s p) (d : Dist p) (o : Old P.clock p) : Sim C (M.put l j s) (P.put l j p) := by
  refine ⟨fun a b h1 h2 => ?_, fun a b h1 h2 => ?_, fun a b h1 h2 => ?_, Z.h, Z.c⟩
  · show SimS _ (if a = l ∧ b = j then s else M.st a b) (if a = l ∧ b = j then p else P.st a b)
    split
    · rename_i e
      rw [e.1]
      exact h
    · exact Z.s a b h1 h2
  · show Dist (if a = l ∧ b = j then p else P.st a b)
    split
    · exact d
    · exact Z.d a b h1 h2
  · show Old P.clock (if a = l ∧ b = j then p else P.st a b)
    split
    · exact o
    · exact Z.o a b h1 h2
/-- how a deeper level runs in both -/
structure SimD (C : Cfg) (l : Nat) (f : Tg → Bool → Int → MSt → MSt) (g : Tg → Bool → Int → PSt → PSt) : Prop where
  sim : ∀ t w n M P, TgOk C t → POk C P → Sim C M P → Sim C (f t w n M) (g t w n P)
  pok : ∀ t w n P, TgOk C t → POk C P → POk C (g t w n P)
  fM : ∀ t w n M a j, a < l → (f t w n M).st a j = M.st a j
  fP : ∀ t w n P a j, a < l → (g t w n P).st a j = P.st a j
  ck : ∀ t w n P, P.clock ≤ (g t w n P).clock
  pl : ∀ t w n M, (f t w n M).played = M.played
end
end L2.Mi.Me

set_option Elab.async false
set_option linter.all false
set_option maxRecDepth 100000
set_option maxHeartbeats 1000000
namespace L2.Mi.Me
open PySem
def it (k : D) : Nat → List (D × D) → List (D × D)
  | 0, c => c
  | n + 1, c => it k n (noteC c k)
end L2.Mi.Me

set_option Elab.async false
set_option linter.all false
set_option maxRecDepth 100000
set_option maxHeartbeats 1000000
set_option Elab.async false
set_option linter.all false
set_option maxRecDepth 100000
set_option maxHeartbeats 1000000
namespace L2.Mi
open PySem
theorem sok_app {a b : Str} (ha : PyData.strOk a = true) (hb : PyData.strOk b = true) : PyData.strOk (a ++ b) = true := by
  show (a.cps ++ b.cps).all _ = true
  rw [Array.all_append, Bool.and_eq_true]
  exact ⟨ha, hb⟩
end L2.Mi
namespace L2.Mi.Me
open PySem
def MB (B : Ent → Prop) (M : MSt) : Prop := ∀ l j e, some e ∈ (M.st l j).pl → B e
section
variable {C : Cfg} {M : MSt} {l j : Nat} {t : Tg} {w : Bool} {n : Int} {f : Tg → Bool → Int → MSt → MSt} {L : Tg → Prop} {N : Int → Prop}
theorem MB.put {B : Ent → Prop} (h : MB B M) {s : SS} (hs : ∀ e, some e ∈ s.pl → B e) : MB B (M.put l j s) := by
  intro a b e he
  have he : some e ∈ (if a = l ∧ b = j then s else M.st a b).pl := he
  split at he
  · exact hs e he
  · exact h a b e he
end
end L2.Mi.Me

set_option Elab.async false
set_option linter.all false
set_option maxRecDepth 100000
set_option maxHeartbeats 1000000
namespace L2.Mi
open PySem L2.Mi.Me
theorem rep_lv {S : Store} {k : Nat} {x : D} (h : k ≤ 1000) : repLk false (.lv [x]) (.int (k : Int)) S = .ok (.lv (List.replicate k x)) S := by
  unfold repLk
  simp only [lsN]
  rw [if_pos ⟨by omega, by omega, by simp⟩, if_neg Bool.false_ne_true]
  have : (List.replicate (k : Int).toNat [x]).flatten = List.replicate k x := by
    rw [Int.toNat_natCast]
    simp
  rw [this]
end L2.Mi
set_option Elab.async false
set_option linter.all false
set_option maxRecDepth 100000
set_option maxHeartbeats 1000000
set_option Elab.async false
set_option linter.all false
set_option maxRecDepth 100000
set_option maxHeartbeats 1000000
namespace L2.Mi.Me
open PySem L2.Mi
def fe (l : List (Option Ent)) : List Ent := l.filterMap id
end L2.Mi.Me
namespace L2.Mi
open PySem L2.Mi.Me
theorem sok_from : ∀ (ts : List Str) (k : Nat) (acc : Str), PyData.strOk acc = true → (∀ t ∈ ts, PyData.strOk t = true) → PyData.strOk (textFrom k acc ts) = true
  | [], k, acc, ha, _ => ha
  | t :: ts, k, acc, ha, h => by
    have hsep : PyData.strOk ((if k > 0 then ", " else "" : String) : Str) = true := by
      by_cases hk : k > 0
      · rw [if_pos hk]; kernel_rfl
      · rw [if_neg hk]; kernel_rfl
    exact sok_from ts (k + 1) _ (sok_app (sok_app ha hsep) (h t (by simp))) fun u hu => h u (by simp [hu])
theorem sok_list {ts : List Str} (h : ∀ t ∈ ts, PyData.strOk t = true) : PyData.strOk (listText ts) = true := sok_app (sok_from ts 0 "[" (by kernel_rfl) h) (b := "]") (by kernel_rfl)
end L2.Mi

set_option Elab.async false
set_option linter.all false
set_option maxRecDepth 100000
set_option maxHeartbeats 2000000
namespace L2.Mi
open PySem PySem.Spec PyProof.Rows
theorem excTail_ve : ∀ l : List Value, PySem.HandSPX.refsVE l = true → PySem.W.excTail PySem.HandSPX.veTail l = true := by
  intro l
  induction l with
  | nil => intro h; exact h
  | cons a r ih =>
    intro h
    rcases PySem.HandSPX.refsVE_cases (a :: r) h with ⟨c, r', q, h2⟩ | q
    · obtain ⟨rfl, rfl⟩ := List.cons.inj q
      exact ih h2
    · rw [q]
      decide +kernel
/-- the classes over ValueError -/
theorem oexA_of {K : PySem.W.Frag} {C : Addr} (T : OexC K C) : OexA K C := by
  obtain ⟨nm, q, N, bs, bm, sn, sub, ab, col, dd, k0, k1, k2, k3, k5, hC, hbm⟩ := T.cls
  exact ⟨"ValueError", "ValueError.__new__", "ValueError.__init__", PySem.HandSPX.veTail, ⟨nm, q, N, bs, bm, sn, sub, ab, col, dd, k0, k1, k2, k3, k5, hC, excTail_ve _ hbm⟩, T.sa, T.kC, PySem.F.excBase_ValueError, PySem.F.store_ValueError⟩
/-- C(e), kept -/
def eMkx (c f : Nat) (m : ME) : ME := fun σ S => (m σ S).bind fun d S1 => .ok (.ex c [f] [d]) S1
theorem made_heapG {H : Hp} {a dx C t0 : Addr} {v : V} {f : Str} (ne : dx ≠ a) :
    upd (upd (upd (upd (upd H a (exo a C none)) dx (exd dx [(f, v)])) a (exo a C (some dx))) dx (.xd [(f, v)])) a (kpt C dx t0) = upd (upd H dx (.xd [(f, v)])) a (kpt C dx t0) := by
  funext b
  by_cases h2 : b = a
  · subst h2
    rw [upd_same, upd_same]
  · rw [upd_ne h2, upd_ne h2]
    by_cases h1 : b = dx
    · subst h1
      rw [upd_same, upd_same]
    · rw [upd_ne h1, upd_ne h2, upd_ne h1, upd_ne h2, upd_ne h1]
section
variable {G : Gx} {X : Cx} {W : WX}
/-- what the own __init__ of one field does to the heap, and the exception is kept -/
theorem spXG_post {ρ1 : Wd} {S1 : Store} {H1 : Hp} {E : XK} {Q : VK} {C c f : Nat} {a : Addr} {d : D} {v : V} (rl1 : Rl G ρ1 S1 H1) (rv : RV G ρ1 H1 d v) (T : OexA G.K C) (hc : G.clsv c = some (.ref C)) (hn : PySem.W.findIn G.K (.ref C) (G.fld f) = some none)
    (ha : H1 a = none) (q : ∀ H2, Le G ρ1 H1 ρ1 H2 → Rl G ρ1 S1 H2 → RV G ρ1 H2 (.ex c [f] [d]) (.ref a) → Q (.ref a) H2) (E0 : XK) :
    spXG G.K (G.fld f) [.ref a, v] (upd H1 a (exo a C none)) (kQ C a Q) E0 := by
  refine ⟨a, C, v, rfl, T, hn, upd_same, fun dx n1 n2 => ?_⟩
  have hx : H1 dx = none := by rw [upd_ne n2] at n1; exact n1
  refine ⟨rfl, dx, [(G.fld f, v)], upd_same, by rw [upd_ne n2, upd_same], fun t0 => ?_⟩
  rw [made_heapG n2]
  have ha2 : upd H1 dx (.xd [(G.fld f, v)]) a = none := by rw [upd_ne (Ne.symm n2)]; exact ha
  have l1 : Le G ρ1 H1 ρ1 (upd H1 dx (.xd [(G.fld f, v)])) := Le.new hx
  have l2 : Le G ρ1 (upd H1 dx (.xd [(G.fld f, v)])) ρ1 (upd (upd H1 dx (.xd [(G.fld f, v)])) a (kpt C dx t0)) := Le.new ha2
  refine q _ (l1.trans l2) ((rl1.other hx).other ha2) (.ex hc upd_same (by rw [upd_ne n2, upd_same]; rfl) (.cons (rv.mono (l1.trans l2)) .nil))
theorem se_mkx {e : Expr} {m : ME} {c f : Nat} {C fI : Addr} {k : Nat} {fd : FuncData} {ps : List Str} {x : Str} {p pos : Pos} (cc : Cc G X W) (T : OexA X.K C) (iC : PySem.W.findIn X.K (.ref C) "__init__" = some (some (.ref fI))) (tI : PySem.W.typeIn X.K (.ref fI) = some (.type "function"))
    (hc : G.clsv c = some (.ref C)) (hn : PySem.W.findIn X.K (.ref C) (G.fld f) = some none)
    (F : FnOk X.prog X.w X.K X.mg X.base (L2.CX X.prog X.w) k fI fd ps (spXG X.K (G.fld f))) (hr : Room (k + 1) X.A) (hb : Binds X.K fd ps []) (hg : Gl X x) (hm : X.mg x = some (.ref C)) (he : SE G X W e m)
    (hdb : (x == ("__debug__" : Str)) = false := by decide) (hs : starEach [e] X.env = (false, eval e X.env) :: starEach [] X.env := by rfl) (hpl : (backTo pos (starEach [] X.env)).any (·.1) = false := by rfl) :
    SE G X W (.Call (.Name x p) [e] [] pos) (eMkx c f m) := by
  refine se_of (pe_mkG T iC tI F hr hb .nil passFalse hg hm (sa_cons he sa_nil hs) hdb hs hpl) fun σ H Q ρ σs S rl re p => ?_
  refine ⟨ρ, σs, S, rl, re, ?_⟩
  unfold eMkx at p
  unfold aList aList
  cases hm1 : m σs S with
  | bad => rw [hm1] at p; exact p.elim
  | exc y S1 => rw [hm1] at p; exact p
  | ok d S1 =>
    rw [hm1] at p
    intro ρ1 H1 xs l1 rl1 rv1
    obtain ⟨v, rfl, rv⟩ := rvs1 rv1
    refine ⟨by simp, fun a ha => ?_⟩
    have z := spXG_post (E := fun _ _ _ => False) (Q := Q) rl1 rv (cc.k ▸ T) hc (cc.k ▸ hn) ha (fun H2 l2 r2 v2 => p ρ1 H2 (.ref a) (l1.trans l2) r2 v2) (fun _ _ _ => False)
    rw [cc.k]
    exact z
/-- one keyword -/
theorem sk_one {e : Expr} {m : ME} {nm : Option Str} {kpos : Pos} (ha : SE G X W e m) : PK X [⟨nm, e, kpos⟩] (tma G W (aList [m])) := by
  refine ⟨fun pos pins s σ H Q I h => (pk_cons ha pk_nil).run pos pins s σ H Q I ?_⟩
  obtain ⟨ρ, σs, S, rl, re, p⟩ := h
  refine ⟨ρ, σs, S, rl, re, PostR.bind (R := RV G) (r := m σs S) p fun ρ1 H1 S1 d v l1 rl1 rv1 p1 => ?_⟩
  exact p1 ρ1 H1 _ Le.refl rl1 (.cons rv1 .nil)
/-- C(k = e), kept -/
theorem se_mkxk {e : Expr} {m : ME} {c f : Nat} {C fI : Addr} {k : Nat} {fd : FuncData} {ps : List Str} {x key : Str} {p pos kp : Pos} {g : List Value → List Value → List Value} {gV : List V → List V → List V} (cc : Cc G X W) (T : OexA X.K C)
    (iC : PySem.W.findIn X.K (.ref C) "__init__" = some (some (.ref fI))) (tI : PySem.W.typeIn X.K (.ref fI) = some (.type "function")) (hc : G.clsv c = some (.ref C)) (hn : PySem.W.findIn X.K (.ref C) (G.fld f) = some none)
    (F : FnOk X.prog X.w X.K X.mg X.base (L2.CX X.prog X.w) k fI fd ps (spXG X.K (G.fld f))) (hr : Room (k + 1) X.A) (hb : KBn X.K fd ps 1 [key] g gV) (hgv : ∀ a v, gV [a] [v] = [a, v]) (hg : Gl X x) (hm : X.mg x = some (.ref C)) {kws : List Keyword}
    (hkw : PK X kws (tma G W (aList [m])))
    (hall : (backToKw pos (keywordEach kws X.env)).all (·.1.isSome) = true := by rfl) (hks : (backToKw pos (keywordEach kws X.env)).filterMap (·.1) = [key] := by rfl) (hdb : (x == ("__debug__" : Str)) = false := by decide)
    (hpl : ((backTo pos (starEach [] X.env)).any (·.1) || (backToKw pos (keywordEach kws X.env)).any (·.1.isNone)) = false := by rfl) :
    SE G X W (.Call (.Name x p) [] kws pos) (eMkx c f m) := by
  refine se_of (pe_mkGk T iC tI F hr hg hm hb passFalse hkw hall hks hdb hpl) fun σ H Q ρ σs S rl re p => ?_
  refine ⟨ρ, σs, S, rl, re, ?_⟩
  unfold eMkx at p
  unfold aList aList
  cases hm1 : m σs S with
  | bad => rw [hm1] at p; exact p.elim
  | exc y S1 => rw [hm1] at p; exact p
  | ok d S1 =>
    rw [hm1] at p
    intro ρ1 H1 xs l1 rl1 rv1
    obtain ⟨v, rfl, rv⟩ := rvs1 rv1
    refine ⟨rfl, fun a ha => ?_⟩
    rw [hgv]
    have z := spXG_post (E := fun _ _ _ => False) (Q := Q) rl1 rv (cc.k ▸ T) hc (cc.k ▸ hn) ha (fun H2 l2 r2 v2 => p ρ1 H2 (.ref a) (l1.trans l2) r2 v2) (fun _ _ _ => False)
    rw [cc.k]
    exact z
def exFld (f : Nat) : List Nat → List D → Option D
  | n :: ns, d :: ds => if f = n then some d else exFld f ns ds
  | _, _ => none
/-- e.f of a kept exception of one of the classes cs -/
def eXk (cs : List Nat) (f : Nat) (m : ME) : ME := fun σ S => (m σ S).bind fun d S1 => match d with
  | .ex c ns ds => if c ∈ cs then (match exFld f ns ds with | some v => .ok v S1 | none => .bad) else .bad
  | _ => .bad
theorem exFld_rel {ρ : Wd} {H : Hp} {f : Nat} : ∀ {ns : List Nat} {ds : List D} {xs : List V} {d : D}, RVs G ρ H ds xs → exFld f ns ds = some d → ∃ v, ((ns.map G.fld).zip xs).lookup (G.fld f) = some v ∧ RV G ρ H d v
  | [], _, _, _, _, h => by unfold exFld at h; cases h
  | _ :: _, _, _, _, .nil, h => by unfold exFld at h; cases h
  | n :: ns, _, _, d, .cons (v := v) r t, h => by
    unfold exFld at h
    by_cases e : f = n
    · rw [if_pos e] at h
      cases h
      subst e
      exact ⟨v, by simp [List.lookup], r⟩
    · rw [if_neg e] at h
      obtain ⟨w, h1, h2⟩ := exFld_rel t h
      refine ⟨w, ?_, h2⟩
      have ne : G.fld f ≠ G.fld n := fun z => e (G.inj _ _ z)
      have b : (G.fld f == G.fld n) = false := by simpa using ne
      simp only [List.map_cons, List.zip_cons_cons, List.lookup, b]
      exact h1
theorem se_xk {e : Expr} {m : ME} {f : Nat} {x : Str} {pos : Pos} (cs : List Nat) (cc : Cc G X W) (hx : G.fld f = x) (hcs : ∀ c ∈ cs, ∀ C, G.clsv c = some (.ref C) → XfC X.K C ∧ PySem.W.findIn X.K (.ref C) x = some none) (he : SE G X W e m)
    (hb : attributeBase e x X.env (eval e X.env) = eval e X.env := by rfl) : SE G X W (.Attribute e x pos) (eXk cs f m) := by
  refine se_of (pe_xk he hb) fun σ H Q ρ σs S rl re p => ?_
  refine ⟨ρ, σs, S, rl, re, ?_⟩
  unfold eXk at p
  refine PostR.bind (R := RV G) (r := m σs S) p fun ρ1 H1 S1 d v l1 rl1 rv1 p1 => ?_
  cases rv1 with
  | @ex c C a dx t0 ns ds xs h1 h2 h3 h4 =>
    dsimp only at p1
    by_cases hc : c ∈ cs
    · rw [if_pos hc] at p1
      cases q : exFld f ns ds with
      | none => rw [q] at p1; exact p1.elim
      | some w =>
        rw [q] at p1
        obtain ⟨u, hu, ru⟩ := exFld_rel h4 q
        obtain ⟨T, hno⟩ := hcs c hc C h1
        exact ⟨a, C, dx, t0, _, u, rfl, T, hno, h2, h3, by rw [← hx]; exact hu, post_ok p1 rl1 ru⟩
    · rw [if_neg hc] at p1; exact p1.elim
  | _ => exact p1.elim
/-- a class of exceptions as a value -/
theorem se_cx {x : Str} {c : Nat} {C : Addr} {pos : Pos} (hg : Gl X x) (hm : X.mg x = some (.ref C)) (hC : G.clsv c = some (.ref C)) (hdb : (x == ("__debug__" : Str)) = false := by decide) : SE G X W (.Name x pos) (eC (.cx c)) :=
  se_of (pe_glob hg hm (v := .ref C) rfl hdb) fun _ _ _ _ _ _ rl _ p => post_ok p rl (.cx hC)
/-- the answers: class of the exception, the asked class (a built-in one, one of the program) -/
abbrev IsX := Nat → String ⊕ Nat → Option Bool
def isxC : D → Option (String ⊕ Nat)
  | .ty n => some (.inl n)
  | .cx c => some (.inr c)
  | _ => none
def isxF (t : IsX) : FN := fun ds S => match ds with
  | [.ex c _ _, k] => (match isxC k with | some z => (match t c z with | some b => .ok (.bl b) S | none => .bad) | none => .bad)
  | _ => .bad
/-- what the table must say -/
def IsXok (G : Gx) (t : IsX) : Prop := ∀ c z b C, t c z = some b → G.clsv c = some (.ref C) → ExcC G.K C ∧ (match z with
  | .inl n => PySem.W.kitOne G.K (.ref C) (.type n) = some b
  | .inr c2 => ∀ C2, G.clsv c2 = some (.ref C2) → PySem.W.kitOne G.K (.ref C) (.ref C2) = some b)
theorem fns_isx {t : IsX} (cc : Cc G X W) (ht : IsXok G t) : FnS G X W (.builtin "isinstance") (isxF t) := FnS.of call_isK fun ρ S H ds xs Q E rl r p => by
  unfold isxF at p
  split at p
  · rename_i c ns vs k
    obtain ⟨x, y, rfl, h1, h2⟩ := rvs2 r
    cases q1 : isxC k with
    | none => simp only [q1] at p; exact p.elim
    | some z =>
      cases q2 : t c z with
      | none => simp only [q1, q2] at p; exact p.elim
      | some b =>
        simp only [q1, q2] at p
        cases h1 with
        | @ex c C a dx t0 ns ds xs g1 g2 g3 g4 =>
          obtain ⟨E1, E2⟩ := ht c z b C q2 g1
          rw [cc.k] at *
          cases h2 with
          | ty n => cases q1; exact ⟨a, C, dx, t0, _, .ty n, .type n, b, rfl, E1, g2, g3, fun u hu => hu, E2, post_ok p rl (.bl b)⟩
          | @cx c2 C2 hc2 => cases q1; exact ⟨a, C, dx, t0, _, .ref C2, .ref C2, b, rfl, E1, g2, g3, fun u hu => hu, E2 C2 hc2, post_ok p rl (.bl b)⟩
          | _ => cases q1
  · exact p.elim
end
end L2.Mi

set_option Elab.async false
set_option linter.all false
set_option maxRecDepth 100000
set_option maxHeartbeats 2000000
namespace L2.Mi
open PySem PySem.Spec PyProof.Rows
theorem oexOG_ok {newId : String} {bmB : List Value} {K : Fg} {C : Addr} (h : oexOG newId bmB K C = true) : ∃ nm q N bs bm sn sub ab col dd k0 k1 k2 k3 k5, K.lookup C = some (excClassObj nm q C N bs bm true sn sub ab col dd k0 k1 k2 k3 k5 newId) ∧ PySem.W.excTail bmB bm = true := by
  unfold oexOG at h
  split at h
  · rename_i t dd cd sl look
    split at h
    · rename_i C2 bm k0 k1 k2 k3 n k5 e1 e2
      obtain ⟨a1, h⟩ := ba h
      obtain ⟨a2, h⟩ := ba h
      obtain ⟨a3, h⟩ := ba h
      obtain ⟨a4, h⟩ := ba h
      obtain ⟨a5, a6⟩ := ba h
      have b1 := of_decide_eq_true a1
      have b2 := of_decide_eq_true a2
      have b3 := of_decide_eq_true a3
      subst b1 b2 b3
      obtain ⟨z1, z2, z3, z4, z5, z6, z7, z8, z9, z10, z11⟩ := cd
      obtain ⟨sl0⟩ := sl
      simp only at e1 e2 a4 a5
      have a7 : z11 = false := by simpa using a4
      subst e1 e2 a5 a7
      exact ⟨_, _, _, _, _, _, _, _, _, _, _, _, _, _, _, look, a6⟩
    · cases h
  · cases h
/-- a kept exception's class: made, its fields read -/
structure XA (K : Fg) (C fI : Addr) : Prop where
  o : OexA K C
  x : XfC K C
  i : PySem.W.findIn K (.ref C) "__init__" = some (some (.ref fI))
  t : PySem.W.typeIn K (.ref fI) = some (.type "function")
theorem XC.xa {K : Fg} {C fI : Addr} (h : XC K C fI) : XA K C fI := ⟨oexA_of h.o, h.x, h.i, h.t⟩
theorem oexRB_ok {C : Str} {K : Fg} (h : oexRB C K = true) : XA K (He.ga K C) (He.ma K (He.ga K C) "__init__") := by
  obtain ⟨h1, h⟩ := ba h
  obtain ⟨h2, h⟩ := ba h
  obtain ⟨h3, h⟩ := ba h
  obtain ⟨h4, h5⟩ := ba h
  obtain ⟨h8, h9⟩ := fnAt_ok h4
  exact ⟨⟨_, _, _, _, ⟨oexOG_ok h1, He.eqO_ok h2, h3, PySem.F.excBase_RuntimeError, PySem.F.store_RuntimeError⟩⟩, xfB_ok h5, h8, beq_iff_eq.mp h9⟩
theorem xr_of {L : Lw} {K : Fg} (c : L.Says K) (i : Nat) {C : Str} (h : L.fa[i]? = some (.raw (oexRB C))) : XA K (He.ga K C) (He.ma K (He.ga K C) "__init__") := oexRB_ok (c.fact i h)
theorem excB_ok {C : Str} {K : Fg} (h : excB C K = true) : ExcC K (He.ga K C) := by
  obtain ⟨h1, h⟩ := ba h
  obtain ⟨h2, h⟩ := ba h
  obtain ⟨h3, h⟩ := ba h
  obtain ⟨h4, h5⟩ := ba h
  have x := xfB_ok h1
  exact ⟨x.ga, x.gg, x.exC, x.hdC, He.eqO_ok h2, He.eqO_ok h3, of_decide_eq_true h4, of_decide_eq_true h5⟩
end L2.Mi

set_option Elab.async false
set_option linter.all false
set_option maxRecDepth 100000
set_option maxHeartbeats 2000000
namespace L2.Mi
open PySem PySem.Spec PyProof.Rows
section
variable {K : PySem.W.Frag} {x qual : Str} {params : Arguments} {body : List Stmt} {scope : Scope} {f : Addr} {fd : FuncData} {ps : List Str}
theorem kbindsP (F : FunD K x qual params body scope [] [] f fd) (n : Nat) (ks : List Str) (g : {α : Type} → List α → List α → List α)
    (hrel : ∀ {vs zs : List V} {us ws : List Value}, Vals vs us → Vals zs ws → Vals (g vs zs) (g us ws))
    (h : ∀ (kV doc pm : Value) (an : Option Addr) (cdv ct : Value) (us ws : List Value), us.length = n → ws.length = ks.length →
      bindArgs (PySem.W.fnOf x qual params body scope .none kV doc pm an cdv ct) ⟨us, ks.zip ws⟩ = pure (ps.zip (g us ws))) :
    KBn K fd ps n ks (fun us ws => g us ws) (fun vs zs => g vs zs) := by
  obtain ⟨oc, od, dV, kV, doc, pm, an, cdv, ct, osl, rfl, lk, hcd, hD, hK⟩ := F.ex
  rcases hD with ⟨_, rfl⟩ | ⟨e, _⟩
  · refine ⟨fun s us ws X l1 l2 => BindsTo.of_looks fun M => ?_, fun r1 r2 => hrel r1 r2⟩
    rw [h kV doc pm an cdv ct us ws l1 l2]
    exact .now
  · exact absurd rfl e
/-- def f(self, v), called with v = .. -/
theorem kbinds2 {s v : Str} (F : FunD K x qual params body scope [] [] f fd)
    (h : ∀ (kV doc pm : Value) (an : Option Addr) (cdv ct : Value) (a b : Value), bindArgs (PySem.W.fnOf x qual params body scope .none kV doc pm an cdv ct) ⟨[a], [(v, b)]⟩ = pure [(s, a), (v, b)]) :
    KBn K fd [s, v] 1 [v] (fun us ws => us ++ ws) (fun vs zs => vs ++ zs) :=
  kbindsP F 1 [v] (fun {α} a b => a ++ b) (fun r1 r2 => r1.append r2) fun kV doc pm an cdv ct us ws l1 l2 => by
    match us, ws, l1, l2 with
    | [a], [b], _, _ => exact h kV doc pm an cdv ct a b
end
end L2.Mi

set_option Elab.async false
set_option linter.all false
set_option maxRecDepth 100000
set_option maxHeartbeats 2000000
namespace L2.Mi
open PySem PySem.Spec PyProof.Rows
/-- {}, never changed -/
def eDv0 : ME := fun _ S => .ok (.dv false []) S
theorem eDv0_ev {σ : En} {S : Store} : eDv0 σ S = .ok (.dv false []) S := (rfl)
def isE0 : D → Bool
  | .dv false [] => true
  | _ => false
def reprOkE (p : PyData) : Bool := p.showable && (decide (p.shown.length ≤ sizeLine) && decide (p.depth ≤ 32))
/-- repr of a list of {} -/
def reprE : FN := fun xs S => match xs with
  | [.lv (d :: ds)] => if (d :: ds).all isE0 then (if reprOkE (.list ((d :: ds).map fun _ => .dict [])) then .ok (.str (PyData.list ((d :: ds).map fun _ => .dict [])).shown.cps.toList) S else .bad) else .bad
  | _ => .bad
section
variable {G : Gx} {X : Cx} {W : WX} {pins : List (Addr × Obj)} {σ : St} {H : Hp} {s : Shared} {ρ : Wd} {pos : Pos}
theorem se_dv0 : SE G X W (.Dict [] [] pos) eDv0 := se_of pe_dnewK fun σ H Q ρ σs S rl re p a ha => by
  unfold eDv0 at p
  exact post_new p rl ha (.dvK (rl.no ha) (.inl upd_same) .nil)
theorem readsE (I : Inv X pins σ H s) {d : D} {v : V} {u : Value} (rv : RV G ρ H d v) (r : RelV v u) (h : isE0 d = true) : ∃ a, Reads s.heap u (.dict []) [a] ∧ (a == sysModules) = false := by
  cases rv with
  | @dvK kvs a kus _ hd rs =>
    obtain rfl : u = Value.ref a := r
    cases rs with
    | nil =>
      obtain ⟨_, lo, vs, rel, o, es, ep, g1, ex, g3, _, prs, _⟩ := dk_rd I.hok hd
      cases rel
      have he : es.toList = [] := by
        generalize es.toList = l at prs
        cases prs
        rfl
      exact ⟨a, Reads.dict (h := s.heap) (a := a) (o := o) (es := es) (n := ep) (kvs := []) (as := []) (bs := []) g1 ex.1 g3 (by rw [he]; exact .nil) (by rw [he]; exact .nil), lo⟩
    | cons _ _ _ => exact absurd h (by simp [isE0])
  | _ => exact absurd h (by simp [isE0])
theorem readsE_all (I : Inv X pins σ H s) : ∀ {ds : List D} {vs : List V} {us : List Value}, RVs G ρ H ds vs → Vals vs us → ds.all isE0 = true → ∃ as, ReadsAll s.heap us (ds.map fun _ => .dict []) as ∧ sysModules ∉ as
  | _, _, _, .nil, .nil, _ => ⟨[], .nil, List.not_mem_nil⟩
  | d :: ds, v :: vs, u :: us, .cons r1 r2, .cons k1 k2, h => by
    rw [List.all_cons, Bool.and_eq_true] at h
    obtain ⟨a, z1, n1⟩ := readsE I r1 k1 h.1
    obtain ⟨as, z2, n2⟩ := readsE_all I r2 k2 h.2
    exact ⟨_, .cons z1 z2, fun hm => (List.mem_append.mp hm).elim (fun hm => by rw [List.mem_singleton] at hm; rw [← hm] at n1; simp at n1) n2⟩
/-- repr of a list: what is read in it is not sys.modules -/
theorem repr_list {A : Around} {E : Value → Shared → Prop} {P : Program} {w : World} {a : Addr} {o : Obj} {x : Value} {l : List Value} {n : Nat} {xs : List PyData} {as : List Addr} {Q : Value → Shared → Prop} (h1 : s.heap.get? a = some o) (h2 : o.cls = .type "list") (h3 : o.data = .seq (x :: l).toArray n)
    (h4 : ReadsAll s.heap (x :: l) xs as) (hs : PyData.showableAll xs = true) (hn : sysModules ∉ as) (hz : (listText (PyData.shownAll xs)).length ≤ sizeLine) (hg : A.guards = some []) (hu : A.units + (PyData.depthAll xs + 2) < cLine)
    (hQ : ∀ h' u tk, (∀ b o, s.heap.get? b = some o → h'.get? b = some o) → Q (.str (PyData.list xs).shown u) { s with heap := h', toks := tk }) : wpAny (model P w) A (call (.builtin "repr") [.ref a]) Q E s := by
  obtain ⟨bs, hb, hk⟩ := ReprAllK.of_readsAll (prog := P) (w := w) h4 hs (fun _ => hn) (fun t ht => Nat.le_trans (listText_mem_le ht) hz)
  have hna : a ∉ bs := not_mem_of_deeper (.list h1 h2 h3 (by simpa using h4)) (by simp only [PyData.depth]; omega) hb
  have kk : ∀ b o, s.heap.get? b = some o → s.heap.get? b = some o := fun _ _ e => e
  refine call_repr_slot (by omega) ⟨o, h1, h2⟩ F.slot_list_repr.toG ?_
  refine call_list_reprK h1 h2 h3 hna (by simpa using hk.length_eq) (fun i y e => hk.item i y (by simpa using e)) hg (fun b _ => Clear.nil b) (by show A.units + 1 + (_ + 1) < cLine; omega) kk (fun h' u tk k => ⟨_, _, rfl, ?_⟩) hz
  have z := hQ h' u tk k
  simpa only [PyData.shown] using z
theorem fns_reprE (ng : NoG X.A) (hu : X.A.units + 64 < cLine) : FnS G X W (.builtin "repr") reprE := by
  intro pins s σ H xs us Q ρ S ds I r rl rv p
  unfold reprE at p
  split at p
  · rename_i d ds
    by_cases ha : (d :: ds).all isE0 = true
    · rw [if_pos ha] at p
      by_cases hok : reprOkE (.list ((d :: ds).map fun _ => .dict [])) = true
      · rw [if_pos hok] at p
        obtain ⟨o1, o2⟩ := ba hok
        obtain ⟨o3, o4⟩ := ba o2
        have e3 := of_decide_eq_true o3
        have e4 := of_decide_eq_true o4
        cases rv with
        | cons r1 r2 =>
          cases r2
          cases r with
          | cons k1 k2 =>
            cases k2
            cases r1 with
            | @lv _ a ys _ h rs =>
              obtain rfl := k1
              obtain ⟨_, its, m, r2, g1⟩ := (show ObjOk X.prog X.w H s.heap a (.lst ys) from I.hok a _ h)
              obtain ⟨as, z, na⟩ := readsE_all I rs r2 ha
              cases rs with
              | cons q1 q2 =>
                cases r2 with
                | cons t1 t2 =>
                  refine repr_list g1 rfl rfl z (by simpa [PyData.showable] using o1) na (by simpa only [PyData.shown] using e3) ng ?_ (fun h2 t tk kk => ⟨.str (PyData.list ((d :: ds).map fun _ => .dict [])).shown, H, I.kept (t' := _) kk, ⟨_, rfl⟩, post_ok p rl (rv_str _)⟩)
                  simp only [PyData.depth] at e4
                  omega
      · rw [if_neg hok] at p
        exact p.elim
    · rw [if_neg ha] at p
      exact p.elim
  · exact p.elim
end
end L2.Mi

set_option Elab.async false
set_option linter.all false
set_option maxRecDepth 100000
set_option maxHeartbeats 2000000
namespace L2.Mi
open PySem PySem.Spec PyProof.Rows
/-- the class C's __init__ sets f, whatever C's base -/
structure XInitG (P : Program) (w : World) (K : Fg) (mg : Str → Option Value) (base : Heap) (C f s v : Str) : Prop where
  ex : ∃ fd, FnOk P w K mg base (L2.CX P w) 1 (He.ma K (He.ga K C) "__init__") fd [s, v] (spXG K f) ∧ Binds K fd [s, v] [] ∧ KBn K fd [s, v] 1 [v] (fun us ws => us ++ ws) (fun vs zs => vs ++ zs)
def isxTX (t : List (Nat × (String ⊕ Nat) × Bool)) : IsX := fun c z => (t.find? fun q => q.1 == c && decide (q.2.1 = z)).map (·.2.2)
section
variable {L : Lw} {K : Fg} {c : L.Says K} {X : Cx} {W : WX} {C f s v : Str}
theorem se_mkxL {e : Expr} {m : ME} {p pos : Pos} (ci fi i2 i3 : Nat) (cc : Cc (L.gx K c) X W) (NS : Ns K X.mg) (hx : L.xcl[ci]? = some C) (xa : XA K (He.ga K C) (He.ma K (He.ga K C) "__init__")) (h2 : L.fa[i2]? = some (.noat C f)) (h3 : L.fa[i3]? = some (.glo C)) (hf : fldOf L.flds fi = f)
    (F : XInitG X.prog X.w K X.mg X.base C f s v) (hr : Room 2 X.A) (hg : Gl X C) (he : SE (L.gx K c) X W e m)
    (hdb : (C == ("__debug__" : Str)) = false := by decide) (hs : starEach [e] X.env = (false, eval e X.env) :: starEach [] X.env := by rfl) (hpl : (backTo pos (starEach [] X.env)).any (·.1) = false := by rfl) :
    SE (L.gx K c) X W (.Call (.Name C p) [e] [] pos) (eMkx ci fi m) := by
  have hk : X.K = K := cc.k
  subst hf
  obtain ⟨fd, F, hb, _⟩ := F.ex
  have t2 : PySem.W.findIn X.K (.ref (He.ga K C)) (fldOf L.flds fi) = some none := by rw [hk]; exact noat_of c i2 h2
  have t3 : FnOk X.prog X.w X.K X.mg X.base (L2.CX X.prog X.w) 1 (He.ma K (He.ga K C) "__init__") fd [s, v] (spXG X.K (fldOf L.flds fi)) := by rw [hk]; exact F
  exact se_mkx (G := L.gx K c) (k := 1) cc (by rw [hk]; exact xa.o) (by rw [hk]; exact xa.i) (by rw [hk]; exact xa.t) (clsv_of c ci hx) t2 t3 hr (by rw [hk]; exact hb) hg (NS.glo c i3 h3) he hdb hs hpl
theorem se_mkxkL {e : Expr} {m : ME} {p pos kp : Pos} (ci fi i2 i3 : Nat) (cc : Cc (L.gx K c) X W) (NS : Ns K X.mg) (hx : L.xcl[ci]? = some C) (xa : XA K (He.ga K C) (He.ma K (He.ga K C) "__init__")) (h2 : L.fa[i2]? = some (.noat C f)) (h3 : L.fa[i3]? = some (.glo C)) (hf : fldOf L.flds fi = f)
    (F : XInitG X.prog X.w K X.mg X.base C f s v) (hr : Room 2 X.A) (hg : Gl X C) (he : SE (L.gx K c) X W e m)
    (hall : (backToKw pos (keywordEach [⟨some v, e, kp⟩] X.env)).all (·.1.isSome) = true := by rfl) (hks : (backToKw pos (keywordEach [⟨some v, e, kp⟩] X.env)).filterMap (·.1) = [v] := by rfl) (hdb : (C == ("__debug__" : Str)) = false := by decide)
    (hpl : ((backTo pos (starEach [] X.env)).any (·.1) || (backToKw pos (keywordEach [⟨some v, e, kp⟩] X.env)).any (·.1.isNone)) = false := by rfl) :
    SE (L.gx K c) X W (.Call (.Name C p) [] [⟨some v, e, kp⟩] pos) (eMkx ci fi m) := by
  have hk : X.K = K := cc.k
  subst hf
  obtain ⟨fd, F, _, hb⟩ := F.ex
  have t2 : PySem.W.findIn X.K (.ref (He.ga K C)) (fldOf L.flds fi) = some none := by rw [hk]; exact noat_of c i2 h2
  have t3 : FnOk X.prog X.w X.K X.mg X.base (L2.CX X.prog X.w) 1 (He.ma K (He.ga K C) "__init__") fd [s, v] (spXG X.K (fldOf L.flds fi)) := by rw [hk]; exact F
  exact se_mkxk (G := L.gx K c) (e := e) (k := 1) (kp := kp) (key := v) (g := fun us ws => us ++ ws) (gV := fun vs zs => vs ++ zs) cc (by rw [hk]; exact xa.o) (by rw [hk]; exact xa.i) (by rw [hk]; exact xa.t) (clsv_of c ci hx) t2 t3 hr (by rw [hk]; exact hb) (fun _ _ => rfl) hg (NS.glo c i3 h3) (sk_one he) hall hks hdb hpl
theorem xk_one (c : L.Says K) (ci i2 : Nat) {I : Addr} (hx : L.xcl[ci]? = some C) (xa : XA K (He.ga K C) I) (h2 : L.fa[i2]? = some (.noat C f)) : ∀ C2, (L.gx K c).clsv ci = some (.ref C2) → XfC K C2 ∧ PySem.W.findIn K (.ref C2) f = some none := by
  intro C2 h
  rw [clsv_of c ci hx] at h
  cases h
  exact ⟨xa.x, noat_of c i2 h2⟩
theorem se_xkL {e : Expr} {m : ME} {fi : Nat} {pos : Pos} (cs : List Nat) (cc : Cc (L.gx K c) X W) (hf : fldOf L.flds fi = f) (hcs : ∀ j ∈ cs, ∀ C2, (L.gx K c).clsv j = some (.ref C2) → XfC K C2 ∧ PySem.W.findIn K (.ref C2) f = some none) (he : SE (L.gx K c) X W e m)
    (hb : attributeBase e f X.env (eval e X.env) = eval e X.env := by rfl) : SE (L.gx K c) X W (.Attribute e f pos) (eXk cs fi m) := by
  have hk : X.K = K := cc.k
  exact se_xk (G := L.gx K c) (f := fi) cs cc hf (by rw [hk]; exact hcs) he hb
theorem se_cxL {pos : Pos} (ci i3 : Nat) (NS : Ns K X.mg) (hx : L.xcl[ci]? = some C) (h3 : L.fa[i3]? = some (.glo C)) (hg : Gl X C) (hdb : (C == ("__debug__" : Str)) = false := by decide) : SE (L.gx K c) X W (.Name C pos) (eC (.cx ci)) :=
  se_cx (G := L.gx K c) hg (NS.glo c i3 h3) (clsv_of c ci hx) hdb
theorem isx_tab (c : L.Says K) {exc : List Nat} {t : List (Nat × (String ⊕ Nat) × Bool)} (i : Nat) (h : L.fa[i]? = some (.raw (isxAllB L.xcl exc t))) : IsXok (L.gx K c) (isxTX t) := by
  have z : isxAllB L.xcl exc t K = true := c.fact i h
  obtain ⟨z1, z2⟩ := ba z
  intro j k b C hj hC
  unfold isxTX at hj
  cases q : t.find? fun q => q.1 == j && decide (q.2.1 = k) with
  | none => rw [q] at hj; cases hj
  | some y =>
    rw [q] at hj
    have hb : y.2.2 = b := by simpa using hj
    have hf := List.find?_some q
    obtain ⟨e1, e2⟩ := ba hf
    have e1 := eq_of_beq e1
    have e2 := of_decide_eq_true e2
    obtain ⟨y1, y2, y3⟩ := y
    dsimp only at e1 e2 hb
    subst e1 e2 hb
    have m := List.mem_of_find?_eq_some q
    obtain ⟨k1, k2⟩ := ba (List.all_eq_true.mp z2 _ m)
    have k1 := of_decide_eq_true k1
    have k3 := List.all_eq_true.mp z1 _ k1
    dsimp only at k2 k3
    cases qx : L.xcl[y1]? with
    | none => rw [qx] at k3; cases k3
    | some Cn =>
      rw [qx] at k2 k3
      rw [clsv_of c y1 qx] at hC
      cases hC
      refine ⟨excB_ok k3, ?_⟩
      cases y2 with
      | inl n => exact of_decide_eq_true k2
      | inr c2 =>
        intro C2 h2
        dsimp only at k2
        cases qy : L.xcl[c2]? with
        | none => rw [qy] at k2; cases k2
        | some Cm =>
          rw [qy] at k2
          rw [clsv_of c c2 qy] at h2
          cases h2
          exact of_decide_eq_true k2
theorem fns_isxL {t : IsX} (cc : Cc (L.gx K c) X W) (ht : IsXok (L.gx K c) t) : FnS (L.gx K c) X W (.builtin "isinstance") (isxF t) := fns_isx cc ht
end
end L2.Mi

set_option Elab.async false
set_option linter.all false
set_option maxRecDepth 100000
set_option maxHeartbeats 4000000
namespace L2.Mi.Pg
open PySem PySem.Spec PyProof.Rows
def oAdd (call : Nat → FN) : D → D → Store → Res D := opOr (addF noOwn) catR
def oMul (call : Nat → FN) : D → D → Store → Res D := opOr (mulF noOwn) repF
def oEq (call : Nat → FN) : D → D → Store → Res D := eqF noOwn
def oNe (call : Nat → FN) : D → D → Store → Res D := neF noOwn
def xk_access : List Nat := [10]
def xk_name : List Nat := [4, 5, 13]
def xk_position : List Nat := [2, 16]
def xk_value : List Nat := [1, 3, 8, 9, 11, 12, 14, 15]
def xk_word : List Nat := [6, 7, 17, 18]
def isxX : IsX := isxTX isxTb
def m_18 (call : Nat → FN) : MS :=
  -- _law_pool
    sSeq (sSet 2 (eC (.int 0)))
    (sSeq (sIf (tOf (eBin ltI (eVar 1) (eFn lenF (aList [eVar 0])))) (sSet 2 (eBin itemF (eVar 0) (eVar 1))) (sNext))
    (sSeq (sSet 3 (eFn absF (aList [eVar 2])))
    (sSeq (sSet 4 (eBin modI (eBin (oMul call) (eFn intF (aList [eBin (oAdd call) (eBin modI (eFn intF (aList [eVar 2])) (eC (.int 2147483629))) (eBin (oMul call) (eC (.int 104729)) (eBin (oAdd call) (eVar 1) (eC (.int 1))))])) (eBin (oAdd call) (eVar 1) (eC (.int 7)))) (eC (.int 2147483629))))
    (sSeq (sSet 5 (eBin modI (eBin (oMul call) (eBin modI (eFn intF (aList [eBin (oMul call) (eVar 4) (eVar 4)])) (eC (.int 2147483629))) (eC (.int 48271))) (eC (.int 2147483647))))
    (sRet (eLst [eBin (oMul call) (eVar 3) (eFn intF (aList [eBin geI (eVar 3) (eBin powI (eC (.int 10)) (eC (.int 18)))])), eVar 5]))))))
def m_19 (call : Nat → FN) : MS :=
  -- _law_take
    sSeq (sIf (tOf (eBin gtI (eBin itemF (eVar 0) (eC (.int 0))) (eC (.int 0)))) (sSeq (sSet 2 (eBin modI (eFn intF (aList [eBin itemF (eVar 0) (eC (.int 0))])) (eVar 1)))
    (sSeq (sAsg (eBin divI (eBin itemF (eVar 0) (eC (.int 0))) (eVar 1)) (gSub (eVar 0) (eC (.int 0)) setL))
    (sRet (eVar 2)))) (sNext))
    (sSeq (sAsg (eBin modI (eFn intF (aList [eBin (oAdd call) (eBin (oMul call) (eBin itemF (eVar 0) (eC (.int 1))) (eC (.int 48271))) (eC (.int 12345))])) (eC (.int 2147483647))) (gSub (eVar 0) (eC (.int 1)) setL))
    (sRet (eBin modI (eBin divI (eBin modI (eFn intF (aList [eBin (oMul call) (eBin itemF (eVar 0) (eC (.int 1))) (eBin itemF (eVar 0) (eC (.int 1)))])) (eC (.int 2147483629))) (eC (.int 64))) (eVar 1))))
def m_20 (call : Nat → FN) : MS :=
  -- _law_by_value
    sSeq (sSet 1 (eLv [eMkx 1 0 (eVar 0), eMkx 3 0 (eVar 0), eMkx 8 0 (eVar 0), eMkx 9 0 (eVar 0), eMkx 11 0 (eVar 0)]))
    (sSeq (sSet 1 (eBin (oAdd call) (eVar 1) (eLv [eMkx 12 0 (eVar 0), eMkx 14 0 (eVar 0), eMkx 15 0 (eVar 0), eMkx 1 0 (eVar 0)])))
    (sSeq (sSet 1 (eBin (oAdd call) (eVar 1) (eLv [eMkx 3 0 (eVar 0), eMkx 8 0 (eVar 0), eMkx 9 0 (eVar 0)])))
    (sSeq (sSet 1 (eBin (oAdd call) (eVar 1) (eLv [eMkx 11 0 (eVar 0), eMkx 12 0 (eVar 0), eMkx 14 0 (eVar 0)])))
    (sRet (eLcV (iSeq (eBin (oAdd call) (eVar 1) (eLv [eMkx 15 0 (eVar 0)]))) (.one 2) (tYesM) (eXk xk_value 0 (eVar 2)) [2] 1000)))))
def m_21 (call : Nat → FN) : MS :=
  -- _law_by_word
    sSeq (sSet 1 (eLv [eMkx 4 1 (eVar 0), eMkx 5 1 (eVar 0), eMkx 13 1 (eVar 0), eMkx 4 1 (eVar 0)]))
    (sSeq (sSet 2 (eLv [eMkx 6 2 (eVar 0), eMkx 7 2 (eVar 0), eMkx 17 2 (eVar 0), eMkx 18 2 (eVar 0), eMkx 7 2 (eVar 0)]))
    (sSeq (sSet 3 (eLv [eMkx 2 3 (eVar 0), eMkx 16 3 (eVar 0), eMkx 2 3 (eVar 0)]))
    (sSeq (sSet 4 (eBin (oAdd call) (eBin (oAdd call) (eLcV (iSeq (eVar 1)) (.one 5) (tYesM) (eXk xk_name 1 (eVar 5)) [5] 1000) (eLcV (iSeq (eVar 2)) (.one 5) (tYesM) (eXk xk_word 2 (eVar 5)) [5] 1000)) (eLcV (iSeq (eVar 3)) (.one 5) (tYesM) (eXk xk_position 3 (eVar 5)) [5] 1000)))
    (sRet (eBin (oAdd call) (eVar 4) (eLv [eXk xk_access 4 (eMkx 10 4 (eVar 0)), eXk xk_access 4 (eMkx 10 4 (eVar 0))]))))))
def m_22 (call : Nat → FN) : MS :=
  -- _law_all
    sRet (eLv [eMkx 1 0 (eC (.int 1)), eMkx 2 3 (eC (.int 1)), eMkx 3 0 (eC (.int 1)), eMkx 4 1 (eC (.int 1)), eMkx 5 1 (eC (.int 1)), eMkx 6 2 (eC (.int 1)), eMkx 7 2 (eC (.int 1)), eMkx 8 0 (eC (.int 1)), eMkx 9 0 (eC (.int 1)), eMkx 10 4 (eC (.int 1)), eMkx 11 0 (eC (.int 1)), eMkx 12 0 (eC (.int 1)), eMkx 13 1 (eC (.int 1)), eMkx 14 0 (eC (.int 1)), eMkx 15 0 (eC (.int 1)), eMkx 16 3 (eC (.int 1)), eMkx 17 2 (eC (.int 1))])
def m_23 (call : Nat → FN) : MS :=
  -- _law_kinds
    sSeq (sSet 1 (eLv [eFn (isxF isxX) (aList [eVar 0, eC (.cx 1)]), eFn (isxF isxX) (aList [eVar 0, eC (.cx 2)]), eFn (isxF isxX) (aList [eVar 0, eC (.cx 3)])]))
    (sSeq (sSet 1 (eBin (oAdd call) (eVar 1) (eLv [eFn (isxF isxX) (aList [eVar 0, eC (.cx 4)]), eFn (isxF isxX) (aList [eVar 0, eC (.cx 5)]), eFn (isxF isxX) (aList [eVar 0, eC (.cx 6)])])))
    (sSeq (sSet 1 (eBin (oAdd call) (eVar 1) (eLv [eFn (isxF isxX) (aList [eVar 0, eC (.cx 7)]), eFn (isxF isxX) (aList [eVar 0, eC (.cx 8)]), eFn (isxF isxX) (aList [eVar 0, eC (.cx 9)])])))
    (sSeq (sSet 1 (eBin (oAdd call) (eVar 1) (eLv [eFn (isxF isxX) (aList [eVar 0, eC (.cx 10)]), eFn (isxF isxX) (aList [eVar 0, eC (.cx 11)]), eFn (isxF isxX) (aList [eVar 0, eC (.cx 12)])])))
    (sSeq (sSet 1 (eBin (oAdd call) (eVar 1) (eLv [eFn (isxF isxX) (aList [eVar 0, eC (.cx 13)]), eFn (isxF isxX) (aList [eVar 0, eC (.cx 14)]), eFn (isxF isxX) (aList [eVar 0, eC (.cx 15)])])))
    (sRet (eBin (oAdd call) (eVar 1) (eLv [eFn (isxF isxX) (aList [eVar 0, eC (.cx 16)]), eFn (isxF isxX) (aList [eVar 0, eC (.cx 17)])])))))))
def m_24 (call : Nat → FN) : MS :=
  -- law
    sSeq (sSet 1 (eFn (call 18) (aList [eVar 0, eC (.int 0)])))
    (sSeq (sFor (iSeq (eLv [eC .non, eFn (call 19) (aList [eVar 1, eBin powI (eC (.int 10)) (eC (.int 9))]), eC (.str [119, 111, 114, 100]), eTup [eC (.int 1), eC (.int 2)], eLv [eC (.str [97])], eDv0])) (gName 2) (sIf (tOr (tOf (eBin (oNe call) (eFn (fnOr (reprF 8) reprE) (aList [eFn (call 20) (aList [eVar 2])])) (eFn (fnOr (reprF 8) reprE) (aList [eBin (repLk false) (eLv [eVar 2]) (eC (.int 16))])))) (tOf (eBin (oNe call) (eFn (fnOr (reprF 8) reprE) (aList [eFn (call 21) (aList [eVar 2])])) (eFn (fnOr (reprF 8) reprE) (aList [eBin (repLk false) (eLv [eVar 2]) (eC (.int 14))]))))) (sRet (eC (.bl false))) (sNext)) 1000)
    (sSeq (sSet 3 (eFn (call 22) (aList [])))
    (sSeq (sFor (iEn (eVar 3)) (gTup [gName 4, gName 5]) (sSeq (sIf (tOf (eBin (oNe call) (eFn (call 23) (aList [eVar 5])) (eLcV (iRange1 (eC (.int 17))) (.one 6) (tYesM) (eBin (oEq call) (eVar 6) (eVar 4)) [6] 1000))) (sRet (eC (.bl false))) (sNext))
    (sIf (tOr (tNot (tTru (eFn (isxF isxX) (aList [eVar 5, eC (.cx 0)])))) (tOr (tNot (tTru (eFn (isxF isxX) (aList [eVar 5, eC (.ty "ValueError")])))) (tTru (eFn (isxF isxX) (aList [eVar 5, eC (.ty "RuntimeError")]))))) (sRet (eC (.bl false))) (sNext))) 1000)
    (sSeq (sSet 7 (eMkx 18 2 (eC (.str [115, 116, 101, 112, 115]))))
    (sRet (eAnd (eFn (isxF isxX) (aList [eVar 7, eC (.ty "RuntimeError")])) (eAnd (eNot (eFn (isxF isxX) (aList [eVar 7, eC (.ty "ValueError")]))) (eBin (inF true) (eC (.bl true)) (eFn (call 23) (aList [eVar 7]))))))))))
def bodies : List ((Nat → FN) → FN) := [fun call => fun _ _ => .bad,
  fun call => fun _ _ => .bad,
  fun call => fun _ _ => .bad,
  fun call => fun _ _ => .bad,
  fun call => fun _ _ => .bad,
  fun call => fun _ _ => .bad,
  fun call => fun _ _ => .bad,
  fun call => fun _ _ => .bad,
  fun call => fun _ _ => .bad,
  fun call => fun _ _ => .bad,
  fun call => fun _ _ => .bad,
  fun call => fun _ _ => .bad,
  fun call => fun _ _ => .bad,
  fun call => fun _ _ => .bad,
  fun call => fun _ _ => .bad,
  fun call => fun _ _ => .bad,
  fun call => fun _ _ => .bad,
  fun call => fun _ _ => .bad,
  fun call => callD 2 [] (bodyRun 6 (m_18 call)),
  fun call => callD 2 [] (bodyRun 3 (m_19 call)),
  fun call => callD 1 [] (bodyRun 3 (m_20 call)),
  fun call => callD 1 [] (bodyRun 6 (m_21 call)),
  fun call => callD 0 [] (bodyRun 0 (m_22 call)),
  fun call => callD 1 [] (bodyRun 2 (m_23 call)),
  fun call => callD 1 [] (bodyRun 8 (m_24 call))]
def run : Nat → Nat → FN
  | 0, _ => fun _ _ => .bad
  | n + 1, i => (bodies.getD i fun _ _ _ => .bad) (run n)
theorem run_18 {n : Nat} {S : Store} {a0 : D} {a1 : D} : run (n + 1) 18 [a0, a1] S = fin (m_18 (run n) [some a0, some a1, none, none, none, none] S) := rfl
theorem run_19 {n : Nat} {S : Store} {a0 : D} {a1 : D} : run (n + 1) 19 [a0, a1] S = fin (m_19 (run n) [some a0, some a1, none] S) := rfl
end L2.Mi.Pg

set_option Elab.async false
set_option linter.all false
set_option maxRecDepth 100000
set_option maxHeartbeats 4000000
namespace L2.Mi.Pg
open PySem PySem.Spec PyProof.Rows
section
variable {K : Fg} {c : L.Says K} {X : Cx} {W : WX} {n : Nat}
def isG (j : Nat) : Bool := [24].contains j
abbrev IH (c : L.Says K) (P : Program) (w : World) (mg : Str → Option Value) (base : Heap) (n : Nat) : Prop := (∀ (j : Nat) {d : DefM}, defs[j]? = some d → isG j = false → Cal (L.gx K c) P w mg base (lv n) (d.pth.ad K) (run n j)) ∧ (∀ (j : Nat) {d : DefM}, defs[j]? = some d → CalG (L.gx K c) P w mg base (lv n) (d.pth.ad K) (run n j))
theorem isxX_ok (c : L.Says K) : IsXok (L.gx K c) isxX := isx_tab c 71 rfl
theorem xk_access_ok (c : L.Says K) : ∀ j ∈ xk_access, ∀ C2, (L.gx K c).clsv j = some (.ref C2) → XfC K C2 ∧ PySem.W.findIn K (.ref C2) "access" = some none := List.forall_mem_cons.2 ⟨xk_one c 10 56 rfl (xc_of c 55 rfl).xa rfl, fun _ h => (List.not_mem_nil h).elim⟩
theorem xk_name_ok (c : L.Says K) : ∀ j ∈ xk_name, ∀ C2, (L.gx K c).clsv j = some (.ref C2) → XfC K C2 ∧ PySem.W.findIn K (.ref C2) "name" = some none := List.forall_mem_cons.2 ⟨xk_one c 4 29 rfl (xc_of c 28 rfl).xa rfl, List.forall_mem_cons.2 ⟨xk_one c 5 32 rfl (xc_of c 31 rfl).xa rfl, List.forall_mem_cons.2 ⟨xk_one c 13 35 rfl (xc_of c 34 rfl).xa rfl, fun _ h => (List.not_mem_nil h).elim⟩⟩⟩
theorem xk_position_ok (c : L.Says K) : ∀ j ∈ xk_position, ∀ C2, (L.gx K c).clsv j = some (.ref C2) → XfC K C2 ∧ PySem.W.findIn K (.ref C2) "position" = some none := List.forall_mem_cons.2 ⟨xk_one c 2 50 rfl (xc_of c 49 rfl).xa rfl, List.forall_mem_cons.2 ⟨xk_one c 16 53 rfl (xc_of c 52 rfl).xa rfl, fun _ h => (List.not_mem_nil h).elim⟩⟩
theorem xk_value_ok (c : L.Says K) : ∀ j ∈ xk_value, ∀ C2, (L.gx K c).clsv j = some (.ref C2) → XfC K C2 ∧ PySem.W.findIn K (.ref C2) "value" = some none := List.forall_mem_cons.2 ⟨xk_one c 1 5 rfl (xc_of c 4 rfl).xa rfl, List.forall_mem_cons.2 ⟨xk_one c 3 8 rfl (xc_of c 7 rfl).xa rfl, List.forall_mem_cons.2 ⟨xk_one c 8 11 rfl (xc_of c 10 rfl).xa rfl, List.forall_mem_cons.2 ⟨xk_one c 9 14 rfl (xc_of c 13 rfl).xa rfl, List.forall_mem_cons.2 ⟨xk_one c 11 17 rfl (xc_of c 16 rfl).xa rfl, List.forall_mem_cons.2 ⟨xk_one c 12 20 rfl (xc_of c 19 rfl).xa rfl, List.forall_mem_cons.2 ⟨xk_one c 14 23 rfl (xc_of c 22 rfl).xa rfl, List.forall_mem_cons.2 ⟨xk_one c 15 26 rfl (xc_of c 25 rfl).xa rfl, fun _ h => (List.not_mem_nil h).elim⟩⟩⟩⟩⟩⟩⟩⟩
theorem xk_word_ok (c : L.Says K) : ∀ j ∈ xk_word, ∀ C2, (L.gx K c).clsv j = some (.ref C2) → XfC K C2 ∧ PySem.W.findIn K (.ref C2) "word" = some none := List.forall_mem_cons.2 ⟨xk_one c 6 38 rfl (xc_of c 37 rfl).xa rfl, List.forall_mem_cons.2 ⟨xk_one c 7 41 rfl (xc_of c 40 rfl).xa rfl, List.forall_mem_cons.2 ⟨xk_one c 17 44 rfl (xc_of c 43 rfl).xa rfl, List.forall_mem_cons.2 ⟨xk_one c 18 47 rfl (xr_of c 46 rfl) rfl, fun _ h => (List.not_mem_nil h).elim⟩⟩⟩⟩
theorem hu_of {k : Nat} (hr : Room k X.A) : X.A.units + 64 < cLine := by have := hr.un; omega
theorem oAdd_ok (cc : Cc (L.gx K c) X W) (hr : Room (lv n + 1) X.A) (ih : IH c X.prog X.w X.mg X.base n) : OpS (L.gx K c) X W (binaryOp .Add) (oAdd (run n)) := (ops_add cc (noOwn_ok)).or ops_catR
theorem oMul_ok (cc : Cc (L.gx K c) X W) (hr : Room (lv n + 1) X.A) (ih : IH c X.prog X.w X.mg X.base n) : OpS (L.gx K c) X W (binaryOp .Mult) (oMul (run n)) := (ops_mul (noOwn_ok)).or (ops_rep cc)
theorem oEq_ok (cc : Cc (L.gx K c) X W) (hr : Room (lv n + 1) X.A) (ih : IH c X.prog X.w X.mg X.base n) : OpS (L.gx K c) X W (compareOp .Eq) (oEq (run n)) := ops_eq cc (hu_of hr) noOwn_ok
theorem oNe_ok (cc : Cc (L.gx K c) X W) (hr : Room (lv n + 1) X.A) (ih : IH c X.prog X.w X.mg X.base n) : OpS (L.gx K c) X W (compareOp .NotEq) (oNe (run n)) := ops_ne cc (hu_of hr) noOwn_ok
variable {P : Program} {w : World} {mg : Str → Option Value} {base : Heap}
theorem sc_0 : FnScope ["self", "value"] ["self", "value"] (defScope s_0) := ⟨rfl, rfl, rfl, by decide +kernel, rfl, by decide +kernel, by decide +kernel⟩
theorem xiG_0 {c : L.Says K} : XInitG P w K mg base "InvalidText" "value" "self" "value" := by
  obtain ⟨M⟩ := c.fn 0 rfl
  have hv : M.dvs = [] := List.eq_nil_of_length_eq_zero (by rw [← (M.rd ⟨[], []⟩ fun _ => none).length]; rfl)
  exact ⟨M.fd, xiG_ok (K := K) (k := 0) M.F sc_0 (Or.inl rfl) (Or.inl rfl), FunD.bindsN (K := K) (ps := ["self", "value"]) (hv ▸ M.F) fun _ _ _ _ _ _ us hl => match us, hl with | [_, _], _ => rfl, kbinds2 (K := K) (hv ▸ M.F) fun _ _ _ _ _ _ _ _ => rfl⟩
theorem sc_1 : FnScope ["self", "position"] ["self", "position"] (defScope s_1) := ⟨rfl, rfl, rfl, by decide +kernel, rfl, by decide +kernel, by decide +kernel⟩
theorem xiG_1 {c : L.Says K} : XInitG P w K mg base "InvalidSyntax" "position" "self" "position" := by
  obtain ⟨M⟩ := c.fn 1 rfl
  have hv : M.dvs = [] := List.eq_nil_of_length_eq_zero (by rw [← (M.rd ⟨[], []⟩ fun _ => none).length]; rfl)
  exact ⟨M.fd, xiG_ok (K := K) (k := 0) M.F sc_1 (Or.inl rfl) (Or.inl rfl), FunD.bindsN (K := K) (ps := ["self", "position"]) (hv ▸ M.F) fun _ _ _ _ _ _ us hl => match us, hl with | [_, _], _ => rfl, kbinds2 (K := K) (hv ▸ M.F) fun _ _ _ _ _ _ _ _ => rfl⟩
theorem sc_2 : FnScope ["self", "value"] ["self", "value"] (defScope s_2) := ⟨rfl, rfl, rfl, by decide +kernel, rfl, by decide +kernel, by decide +kernel⟩
theorem xiG_2 {c : L.Says K} : XInitG P w K mg base "InvalidTree" "value" "self" "value" := by
  obtain ⟨M⟩ := c.fn 2 rfl
  have hv : M.dvs = [] := List.eq_nil_of_length_eq_zero (by rw [← (M.rd ⟨[], []⟩ fun _ => none).length]; rfl)
  exact ⟨M.fd, xiG_ok (K := K) (k := 0) M.F sc_2 (Or.inl rfl) (Or.inl rfl), FunD.bindsN (K := K) (ps := ["self", "value"]) (hv ▸ M.F) fun _ _ _ _ _ _ us hl => match us, hl with | [_, _], _ => rfl, kbinds2 (K := K) (hv ▸ M.F) fun _ _ _ _ _ _ _ _ => rfl⟩
theorem sc_3 : FnScope ["self", "name"] ["self", "name"] (defScope s_3) := ⟨rfl, rfl, rfl, by decide +kernel, rfl, by decide +kernel, by decide +kernel⟩
theorem xiG_3 {c : L.Says K} : XInitG P w K mg base "DuplicateName" "name" "self" "name" := by
  obtain ⟨M⟩ := c.fn 3 rfl
  have hv : M.dvs = [] := List.eq_nil_of_length_eq_zero (by rw [← (M.rd ⟨[], []⟩ fun _ => none).length]; rfl)
  exact ⟨M.fd, xiG_ok (K := K) (k := 0) M.F sc_3 (Or.inl rfl) (Or.inl rfl), FunD.bindsN (K := K) (ps := ["self", "name"]) (hv ▸ M.F) fun _ _ _ _ _ _ us hl => match us, hl with | [_, _], _ => rfl, kbinds2 (K := K) (hv ▸ M.F) fun _ _ _ _ _ _ _ _ => rfl⟩
theorem sc_4 : FnScope ["self", "name"] ["self", "name"] (defScope s_4) := ⟨rfl, rfl, rfl, by decide +kernel, rfl, by decide +kernel, by decide +kernel⟩
theorem xiG_4 {c : L.Says K} : XInitG P w K mg base "UnknownName" "name" "self" "name" := by
  obtain ⟨M⟩ := c.fn 4 rfl
  have hv : M.dvs = [] := List.eq_nil_of_length_eq_zero (by rw [← (M.rd ⟨[], []⟩ fun _ => none).length]; rfl)
  exact ⟨M.fd, xiG_ok (K := K) (k := 0) M.F sc_4 (Or.inl rfl) (Or.inl rfl), FunD.bindsN (K := K) (ps := ["self", "name"]) (hv ▸ M.F) fun _ _ _ _ _ _ us hl => match us, hl with | [_, _], _ => rfl, kbinds2 (K := K) (hv ▸ M.F) fun _ _ _ _ _ _ _ _ => rfl⟩
theorem sc_5 : FnScope ["self", "word"] ["self", "word"] (defScope s_5) := ⟨rfl, rfl, rfl, by decide +kernel, rfl, by decide +kernel, by decide +kernel⟩
theorem xiG_5 {c : L.Says K} : XInitG P w K mg base "TooLarge" "word" "self" "word" := by
  obtain ⟨M⟩ := c.fn 5 rfl
  have hv : M.dvs = [] := List.eq_nil_of_length_eq_zero (by rw [← (M.rd ⟨[], []⟩ fun _ => none).length]; rfl)
  exact ⟨M.fd, xiG_ok (K := K) (k := 0) M.F sc_5 (Or.inl rfl) (Or.inl rfl), FunD.bindsN (K := K) (ps := ["self", "word"]) (hv ▸ M.F) fun _ _ _ _ _ _ us hl => match us, hl with | [_, _], _ => rfl, kbinds2 (K := K) (hv ▸ M.F) fun _ _ _ _ _ _ _ _ => rfl⟩
theorem sc_6 : FnScope ["self", "word"] ["self", "word"] (defScope s_6) := ⟨rfl, rfl, rfl, by decide +kernel, rfl, by decide +kernel, by decide +kernel⟩
theorem xiG_6 {c : L.Says K} : XInitG P w K mg base "TooMany" "word" "self" "word" := by
  obtain ⟨M⟩ := c.fn 6 rfl
  have hv : M.dvs = [] := List.eq_nil_of_length_eq_zero (by rw [← (M.rd ⟨[], []⟩ fun _ => none).length]; rfl)
  exact ⟨M.fd, xiG_ok (K := K) (k := 0) M.F sc_6 (Or.inl rfl) (Or.inl rfl), FunD.bindsN (K := K) (ps := ["self", "word"]) (hv ▸ M.F) fun _ _ _ _ _ _ us hl => match us, hl with | [_, _], _ => rfl, kbinds2 (K := K) (hv ▸ M.F) fun _ _ _ _ _ _ _ _ => rfl⟩
theorem sc_7 : FnScope ["self", "value"] ["self", "value"] (defScope s_7) := ⟨rfl, rfl, rfl, by decide +kernel, rfl, by decide +kernel, by decide +kernel⟩
theorem xiG_7 {c : L.Says K} : XInitG P w K mg base "InvalidNumber" "value" "self" "value" := by
  obtain ⟨M⟩ := c.fn 7 rfl
  have hv : M.dvs = [] := List.eq_nil_of_length_eq_zero (by rw [← (M.rd ⟨[], []⟩ fun _ => none).length]; rfl)
  exact ⟨M.fd, xiG_ok (K := K) (k := 0) M.F sc_7 (Or.inl rfl) (Or.inl rfl), FunD.bindsN (K := K) (ps := ["self", "value"]) (hv ▸ M.F) fun _ _ _ _ _ _ us hl => match us, hl with | [_, _], _ => rfl, kbinds2 (K := K) (hv ▸ M.F) fun _ _ _ _ _ _ _ _ => rfl⟩
theorem sc_8 : FnScope ["self", "value"] ["self", "value"] (defScope s_8) := ⟨rfl, rfl, rfl, by decide +kernel, rfl, by decide +kernel, by decide +kernel⟩
theorem xiG_8 {c : L.Says K} : XInitG P w K mg base "InvalidCache" "value" "self" "value" := by
  obtain ⟨M⟩ := c.fn 8 rfl
  have hv : M.dvs = [] := List.eq_nil_of_length_eq_zero (by rw [← (M.rd ⟨[], []⟩ fun _ => none).length]; rfl)
  exact ⟨M.fd, xiG_ok (K := K) (k := 0) M.F sc_8 (Or.inl rfl) (Or.inl rfl), FunD.bindsN (K := K) (ps := ["self", "value"]) (hv ▸ M.F) fun _ _ _ _ _ _ us hl => match us, hl with | [_, _], _ => rfl, kbinds2 (K := K) (hv ▸ M.F) fun _ _ _ _ _ _ _ _ => rfl⟩
theorem sc_9 : FnScope ["self", "access"] ["self", "access"] (defScope s_9) := ⟨rfl, rfl, rfl, by decide +kernel, rfl, by decide +kernel, by decide +kernel⟩
theorem xiG_9 {c : L.Says K} : XInitG P w K mg base "OutOfRange" "access" "self" "access" := by
  obtain ⟨M⟩ := c.fn 9 rfl
  have hv : M.dvs = [] := List.eq_nil_of_length_eq_zero (by rw [← (M.rd ⟨[], []⟩ fun _ => none).length]; rfl)
  exact ⟨M.fd, xiG_ok (K := K) (k := 0) M.F sc_9 (Or.inl rfl) (Or.inl rfl), FunD.bindsN (K := K) (ps := ["self", "access"]) (hv ▸ M.F) fun _ _ _ _ _ _ us hl => match us, hl with | [_, _], _ => rfl, kbinds2 (K := K) (hv ▸ M.F) fun _ _ _ _ _ _ _ _ => rfl⟩
theorem sc_10 : FnScope ["self", "value"] ["self", "value"] (defScope s_10) := ⟨rfl, rfl, rfl, by decide +kernel, rfl, by decide +kernel, by decide +kernel⟩
theorem xiG_10 {c : L.Says K} : XInitG P w K mg base "InvalidOrder" "value" "self" "value" := by
  obtain ⟨M⟩ := c.fn 10 rfl
  have hv : M.dvs = [] := List.eq_nil_of_length_eq_zero (by rw [← (M.rd ⟨[], []⟩ fun _ => none).length]; rfl)
  exact ⟨M.fd, xiG_ok (K := K) (k := 0) M.F sc_10 (Or.inl rfl) (Or.inl rfl), FunD.bindsN (K := K) (ps := ["self", "value"]) (hv ▸ M.F) fun _ _ _ _ _ _ us hl => match us, hl with | [_, _], _ => rfl, kbinds2 (K := K) (hv ▸ M.F) fun _ _ _ _ _ _ _ _ => rfl⟩
theorem sc_11 : FnScope ["self", "value"] ["self", "value"] (defScope s_11) := ⟨rfl, rfl, rfl, by decide +kernel, rfl, by decide +kernel, by decide +kernel⟩
theorem xiG_11 {c : L.Says K} : XInitG P w K mg base "InvalidBlocks" "value" "self" "value" := by
  obtain ⟨M⟩ := c.fn 11 rfl
  have hv : M.dvs = [] := List.eq_nil_of_length_eq_zero (by rw [← (M.rd ⟨[], []⟩ fun _ => none).length]; rfl)
  exact ⟨M.fd, xiG_ok (K := K) (k := 0) M.F sc_11 (Or.inl rfl) (Or.inl rfl), FunD.bindsN (K := K) (ps := ["self", "value"]) (hv ▸ M.F) fun _ _ _ _ _ _ us hl => match us, hl with | [_, _], _ => rfl, kbinds2 (K := K) (hv ▸ M.F) fun _ _ _ _ _ _ _ _ => rfl⟩
theorem sc_12 : FnScope ["self", "name"] ["self", "name"] (defScope s_12) := ⟨rfl, rfl, rfl, by decide +kernel, rfl, by decide +kernel, by decide +kernel⟩
theorem xiG_12 {c : L.Says K} : XInitG P w K mg base "Uneven" "name" "self" "name" := by
  obtain ⟨M⟩ := c.fn 12 rfl
  have hv : M.dvs = [] := List.eq_nil_of_length_eq_zero (by rw [← (M.rd ⟨[], []⟩ fun _ => none).length]; rfl)
  exact ⟨M.fd, xiG_ok (K := K) (k := 0) M.F sc_12 (Or.inl rfl) (Or.inl rfl), FunD.bindsN (K := K) (ps := ["self", "name"]) (hv ▸ M.F) fun _ _ _ _ _ _ us hl => match us, hl with | [_, _], _ => rfl, kbinds2 (K := K) (hv ▸ M.F) fun _ _ _ _ _ _ _ _ => rfl⟩
theorem sc_13 : FnScope ["self", "value"] ["self", "value"] (defScope s_13) := ⟨rfl, rfl, rfl, by decide +kernel, rfl, by decide +kernel, by decide +kernel⟩
theorem xiG_13 {c : L.Says K} : XInitG P w K mg base "InvalidWeights" "value" "self" "value" := by
  obtain ⟨M⟩ := c.fn 13 rfl
  have hv : M.dvs = [] := List.eq_nil_of_length_eq_zero (by rw [← (M.rd ⟨[], []⟩ fun _ => none).length]; rfl)
  exact ⟨M.fd, xiG_ok (K := K) (k := 0) M.F sc_13 (Or.inl rfl) (Or.inl rfl), FunD.bindsN (K := K) (ps := ["self", "value"]) (hv ▸ M.F) fun _ _ _ _ _ _ us hl => match us, hl with | [_, _], _ => rfl, kbinds2 (K := K) (hv ▸ M.F) fun _ _ _ _ _ _ _ _ => rfl⟩
theorem sc_14 : FnScope ["self", "value"] ["self", "value"] (defScope s_14) := ⟨rfl, rfl, rfl, by decide +kernel, rfl, by decide +kernel, by decide +kernel⟩
theorem xiG_14 {c : L.Says K} : XInitG P w K mg base "InvalidEvent" "value" "self" "value" := by
  obtain ⟨M⟩ := c.fn 14 rfl
  have hv : M.dvs = [] := List.eq_nil_of_length_eq_zero (by rw [← (M.rd ⟨[], []⟩ fun _ => none).length]; rfl)
  exact ⟨M.fd, xiG_ok (K := K) (k := 0) M.F sc_14 (Or.inl rfl) (Or.inl rfl), FunD.bindsN (K := K) (ps := ["self", "value"]) (hv ▸ M.F) fun _ _ _ _ _ _ us hl => match us, hl with | [_, _], _ => rfl, kbinds2 (K := K) (hv ▸ M.F) fun _ _ _ _ _ _ _ _ => rfl⟩
theorem sc_15 : FnScope ["self", "position"] ["self", "position"] (defScope s_15) := ⟨rfl, rfl, rfl, by decide +kernel, rfl, by decide +kernel, by decide +kernel⟩
theorem xiG_15 {c : L.Says K} : XInitG P w K mg base "InvalidQuestion" "position" "self" "position" := by
  obtain ⟨M⟩ := c.fn 15 rfl
  have hv : M.dvs = [] := List.eq_nil_of_length_eq_zero (by rw [← (M.rd ⟨[], []⟩ fun _ => none).length]; rfl)
  exact ⟨M.fd, xiG_ok (K := K) (k := 0) M.F sc_15 (Or.inl rfl) (Or.inl rfl), FunD.bindsN (K := K) (ps := ["self", "position"]) (hv ▸ M.F) fun _ _ _ _ _ _ us hl => match us, hl with | [_, _], _ => rfl, kbinds2 (K := K) (hv ▸ M.F) fun _ _ _ _ _ _ _ _ => rfl⟩
theorem sc_16 : FnScope ["self", "word"] ["self", "word"] (defScope s_16) := ⟨rfl, rfl, rfl, by decide +kernel, rfl, by decide +kernel, by decide +kernel⟩
theorem xiG_16 {c : L.Says K} : XInitG P w K mg base "InvalidCommand" "word" "self" "word" := by
  obtain ⟨M⟩ := c.fn 16 rfl
  have hv : M.dvs = [] := List.eq_nil_of_length_eq_zero (by rw [← (M.rd ⟨[], []⟩ fun _ => none).length]; rfl)
  exact ⟨M.fd, xiG_ok (K := K) (k := 0) M.F sc_16 (Or.inl rfl) (Or.inl rfl), FunD.bindsN (K := K) (ps := ["self", "word"]) (hv ▸ M.F) fun _ _ _ _ _ _ us hl => match us, hl with | [_, _], _ => rfl, kbinds2 (K := K) (hv ▸ M.F) fun _ _ _ _ _ _ _ _ => rfl⟩
theorem sc_17 : FnScope ["self", "word"] ["self", "word"] (defScope s_17) := ⟨rfl, rfl, rfl, by decide +kernel, rfl, by decide +kernel, by decide +kernel⟩
theorem xiG_17 {c : L.Says K} : XInitG P w K mg base "LimitExceeded" "word" "self" "word" := by
  obtain ⟨M⟩ := c.fn 17 rfl
  have hv : M.dvs = [] := List.eq_nil_of_length_eq_zero (by rw [← (M.rd ⟨[], []⟩ fun _ => none).length]; rfl)
  exact ⟨M.fd, xiG_ok (K := K) (k := 0) M.F sc_17 (Or.inl rfl) (Or.inl rfl), FunD.bindsN (K := K) (ps := ["self", "word"]) (hv ▸ M.F) fun _ _ _ _ _ _ us hl => match us, hl with | [_, _], _ => rfl, kbinds2 (K := K) (hv ▸ M.F) fun _ _ _ _ _ _ _ _ => rfl⟩
abbrev N_18 : List Str := ["_law_script", "_law_k", "_law_cell", "_law_heavy", "_law_blend", "_law_seed"]
theorem sc_18 : FnScope N_18 ["_law_script", "_law_k"] (defScope s_18) := ⟨rfl, rfl, rfl, by decide +kernel, rfl, by decide +kernel, by decide +kernel⟩
theorem ok_18 (NS : Ns K mg) (n : Nat) (ih : IH c P w mg base n) (M : FnM (L.gx K c) ⟨.g "_law_pool", "_law_pool", "_law_pool", s_18, []⟩) : FnOk P w (L.gx K c).K mg base (L2.CX P w) (lv n + 1 + 1) ((.g "_law_pool" : Pth).ad (L.gx K c).K) M.fd ["_law_script", "_law_k"] (spF (L.gx K c) (bodyRun N_18.length (m_18 (run n))) (["_law_script", "_law_k"] : List Str).length) := by
  refine fnd_ok (G := L.gx K c) (k := lv n + 1) (ms := m_18 (run n)) M.F sc_18 fun cdv A outer s H E hr cc => ?_
  exact sss_cons (ss_set (i := 2) cc.nd rfl (by first | exact Or.inl rfl | exact Or.inr rfl) (se_int))
    (sss_cons (ss_if (st_cmp ops_lt (se_var 1) (se_callB (fns_len cc) rfl (NS.free c 1) (by decide +kernel) (sa_cons (se_var 0) (sa_nil)))) (sss_one (ss_set (i := 2) cc.nd rfl (by first | exact Or.inl rfl | exact Or.inr rfl) (se_ix (ixs_item cc) (se_var 0) (se_var 1)))) (sss_nil))
    (sss_cons (ss_set (i := 3) cc.nd rfl (by first | exact Or.inl rfl | exact Or.inr rfl) (se_callB (fns_abs) rfl (NS.free c 2) (by decide +kernel) (sa_cons (se_var 2) (sa_nil))))
    (sss_cons (ss_set (i := 4) cc.nd rfl (by first | exact Or.inl rfl | exact Or.inr rfl) (se_bin ops_mod (se_bin (oMul_ok cc hr ih) (se_callTy (fns_int) rfl (NS.free c 3) (by decide +kernel) (sa_cons (se_bin (oAdd_ok cc hr ih) (se_bin ops_mod (se_callTy (fns_int) rfl (NS.free c 3) (by decide +kernel) (sa_cons (se_var 2) (sa_nil))) (se_int)) (se_bin (oMul_ok cc hr ih) (se_int) (se_bin (oAdd_ok cc hr ih) (se_var 1) (se_int)))) (sa_nil))) (se_bin (oAdd_ok cc hr ih) (se_var 1) (se_int))) (se_int)))
    (sss_cons (ss_set (i := 5) cc.nd rfl (by first | exact Or.inl rfl | exact Or.inr rfl) (se_bin ops_mod (se_bin (oMul_ok cc hr ih) (se_bin ops_mod (se_callTy (fns_int) rfl (NS.free c 3) (by decide +kernel) (sa_cons (se_bin (oMul_ok cc hr ih) (se_var 4) (se_var 4)) (sa_nil))) (se_int)) (se_int)) (se_int)))
    (sss_one (ss_ret (se_lst (sa_cons (se_bin (oMul_ok cc hr ih) (se_var 3) (se_callTy (fns_int) rfl (NS.free c 3) (by decide +kernel) (sa_cons (se_cmp ops_ge (se_var 3) (se_bin ops_pow (se_int) (se_int))) (sa_nil)))) (sa_cons (se_var 5) (sa_nil))) (szl rfl))))))))
theorem cal_18 (NS : Ns K mg) (n : Nat) (ih : IH c P w mg base n) : Cal (L.gx K c) P w mg base (lv (n + 1)) ((.g "_law_pool" : Pth).ad K) (run (n + 1) 18) := by
  obtain ⟨M⟩ := c.fn 18 rfl
  have hv : M.dvs = [] := List.eq_nil_of_length_eq_zero (by rw [← (M.rd ⟨[], []⟩ fun _ => none).length]; rfl)
  exact cal_defD (ok_18 NS n ih M) rfl (fun j hj => ⟨[], by rw [hv]; cases j <;> exact .nil, FunD.bindsN (ps := ["_law_script", "_law_k"]) (hv ▸ M.F) fun _ _ _ _ _ _ us hl => match us, hl with | [_, _], _ => rfl⟩) M.rd
abbrev N_19 : List Str := ["_law_pool_here", "_law_wide", "_law_result"]
theorem sc_19 : FnScope N_19 ["_law_pool_here", "_law_wide"] (defScope s_19) := ⟨rfl, rfl, rfl, by decide +kernel, rfl, by decide +kernel, by decide +kernel⟩
theorem ok_19 (NS : Ns K mg) (n : Nat) (ih : IH c P w mg base n) (M : FnM (L.gx K c) ⟨.g "_law_take", "_law_take", "_law_take", s_19, []⟩) : FnOk P w (L.gx K c).K mg base (L2.CX P w) (lv n + 1 + 1) ((.g "_law_take" : Pth).ad (L.gx K c).K) M.fd ["_law_pool_here", "_law_wide"] (spF (L.gx K c) (bodyRun N_19.length (m_19 (run n))) (["_law_pool_here", "_law_wide"] : List Str).length) := by
  refine fnd_ok (G := L.gx K c) (k := lv n + 1) (ms := m_19 (run n)) M.F sc_19 fun cdv A outer s H E hr cc => ?_
  exact sss_cons (ss_if (st_cmp ops_gt (se_ix (ixs_item cc) (se_var 0) (se_int)) (se_int)) (sss_cons (ss_set (i := 2) cc.nd rfl (by first | exact Or.inl rfl | exact Or.inr rfl) (se_bin ops_mod (se_callTy (fns_int) rfl (NS.free c 3) (by decide +kernel) (sa_cons (se_ix (ixs_item cc) (se_var 0) (se_int)) (sa_nil))) (se_var 1)))
    (sss_cons (ss_asg (se_bin ops_div (se_ix (ixs_item cc) (se_var 0) (se_int)) (se_var 1)) (sg_sub (W := WF E) (se_var 0) (se_int) sts_list))
    (sss_one (ss_ret (se_var 2))))) (sss_nil))
    (sss_cons (ss_asg (se_bin ops_mod (se_callTy (fns_int) rfl (NS.free c 3) (by decide +kernel) (sa_cons (se_bin (oAdd_ok cc hr ih) (se_bin (oMul_ok cc hr ih) (se_ix (ixs_item cc) (se_var 0) (se_int)) (se_int)) (se_int)) (sa_nil))) (se_int)) (sg_sub (W := WF E) (se_var 0) (se_int) sts_list))
    (sss_one (ss_ret (se_bin ops_mod (se_bin ops_div (se_bin ops_mod (se_callTy (fns_int) rfl (NS.free c 3) (by decide +kernel) (sa_cons (se_bin (oMul_ok cc hr ih) (se_ix (ixs_item cc) (se_var 0) (se_int)) (se_ix (ixs_item cc) (se_var 0) (se_int))) (sa_nil))) (se_int)) (se_int)) (se_var 1)))))
theorem cal_19 (NS : Ns K mg) (n : Nat) (ih : IH c P w mg base n) : Cal (L.gx K c) P w mg base (lv (n + 1)) ((.g "_law_take" : Pth).ad K) (run (n + 1) 19) := by
  obtain ⟨M⟩ := c.fn 19 rfl
  have hv : M.dvs = [] := List.eq_nil_of_length_eq_zero (by rw [← (M.rd ⟨[], []⟩ fun _ => none).length]; rfl)
  exact cal_defD (ok_19 NS n ih M) rfl (fun j hj => ⟨[], by rw [hv]; cases j <;> exact .nil, FunD.bindsN (ps := ["_law_pool_here", "_law_wide"]) (hv ▸ M.F) fun _ _ _ _ _ _ us hl => match us, hl with | [_, _], _ => rfl⟩) M.rd
abbrev N_20 : List Str := ["_law_thing", "_law_found", "_law_error"]
theorem sc_20 : FnScope N_20 ["_law_thing"] (defScope s_20) := ⟨rfl, rfl, rfl, by decide +kernel, rfl, by decide +kernel, by decide +kernel⟩
theorem ok_20 (NS : Ns K mg) (n : Nat) (ih : IH c P w mg base n) (M : FnM (L.gx K c) ⟨.g "_law_by_value", "_law_by_value", "_law_by_value", s_20, []⟩) : FnOk P w (L.gx K c).K mg base (L2.CX P w) (lv n + 1 + 1) ((.g "_law_by_value" : Pth).ad (L.gx K c).K) M.fd ["_law_thing"] (spF (L.gx K c) (bodyRun N_20.length (m_20 (run n))) (["_law_thing"] : List Str).length) := by
  refine fnd_ok (G := L.gx K c) (k := lv n + 1) (ms := m_20 (run n)) M.F sc_20 fun cdv A outer s H E hr cc => ?_
  exact sss_cons (ss_set (i := 1) cc.nd rfl (by first | exact Or.inl rfl | exact Or.inr rfl) (se_lv (sa_cons (se_mkxL 1 0 5 6 cc NS rfl (xc_of c 4 rfl).xa rfl rfl rfl (xiG_0 (c := c)) (hr.mono (two_le _)) rfl (se_var 0)) (sa_cons (se_mkxL 3 0 8 9 cc NS rfl (xc_of c 7 rfl).xa rfl rfl rfl (xiG_2 (c := c)) (hr.mono (two_le _)) rfl (se_var 0)) (sa_cons (se_mkxL 8 0 11 12 cc NS rfl (xc_of c 10 rfl).xa rfl rfl rfl (xiG_7 (c := c)) (hr.mono (two_le _)) rfl (se_var 0)) (sa_cons (se_mkxL 9 0 14 15 cc NS rfl (xc_of c 13 rfl).xa rfl rfl rfl (xiG_8 (c := c)) (hr.mono (two_le _)) rfl (se_var 0)) (sa_cons (se_mkxL 11 0 17 18 cc NS rfl (xc_of c 16 rfl).xa rfl rfl rfl (xiG_10 (c := c)) (hr.mono (two_le _)) rfl (se_var 0)) (sa_nil)))))) (szl rfl)))
    (sss_cons (ss_set (i := 1) cc.nd rfl (by first | exact Or.inl rfl | exact Or.inr rfl) (se_bin (oAdd_ok cc hr ih) (se_var 1) (se_lv (sa_cons (se_mkxL 12 0 20 21 cc NS rfl (xc_of c 19 rfl).xa rfl rfl rfl (xiG_11 (c := c)) (hr.mono (two_le _)) rfl (se_var 0)) (sa_cons (se_mkxL 14 0 23 24 cc NS rfl (xc_of c 22 rfl).xa rfl rfl rfl (xiG_13 (c := c)) (hr.mono (two_le _)) rfl (se_var 0)) (sa_cons (se_mkxL 15 0 26 27 cc NS rfl (xc_of c 25 rfl).xa rfl rfl rfl (xiG_14 (c := c)) (hr.mono (two_le _)) rfl (se_var 0)) (sa_cons (se_mkxkL 1 0 5 6 cc NS rfl (xc_of c 4 rfl).xa rfl rfl rfl (xiG_0 (c := c)) (hr.mono (two_le _)) rfl (se_var 0)) (sa_nil))))) (szl rfl))))
    (sss_cons (ss_set (i := 1) cc.nd rfl (by first | exact Or.inl rfl | exact Or.inr rfl) (se_bin (oAdd_ok cc hr ih) (se_var 1) (se_lv (sa_cons (se_mkxkL 3 0 8 9 cc NS rfl (xc_of c 7 rfl).xa rfl rfl rfl (xiG_2 (c := c)) (hr.mono (two_le _)) rfl (se_var 0)) (sa_cons (se_mkxkL 8 0 11 12 cc NS rfl (xc_of c 10 rfl).xa rfl rfl rfl (xiG_7 (c := c)) (hr.mono (two_le _)) rfl (se_var 0)) (sa_cons (se_mkxkL 9 0 14 15 cc NS rfl (xc_of c 13 rfl).xa rfl rfl rfl (xiG_8 (c := c)) (hr.mono (two_le _)) rfl (se_var 0)) (sa_nil)))) (szl rfl))))
    (sss_cons (ss_set (i := 1) cc.nd rfl (by first | exact Or.inl rfl | exact Or.inr rfl) (se_bin (oAdd_ok cc hr ih) (se_var 1) (se_lv (sa_cons (se_mkxkL 11 0 17 18 cc NS rfl (xc_of c 16 rfl).xa rfl rfl rfl (xiG_10 (c := c)) (hr.mono (two_le _)) rfl (se_var 0)) (sa_cons (se_mkxkL 12 0 20 21 cc NS rfl (xc_of c 19 rfl).xa rfl rfl rfl (xiG_11 (c := c)) (hr.mono (two_le _)) rfl (se_var 0)) (sa_cons (se_mkxkL 14 0 23 24 cc NS rfl (xc_of c 22 rfl).xa rfl rfl rfl (xiG_13 (c := c)) (hr.mono (two_le _)) rfl (se_var 0)) (sa_nil)))) (szl rfl))))
    (sss_one (ss_ret (se_lcc (own := [("_law_error", 2)]) (t := (.one 2)) 1000 cc (si_seq cc (se_bin (oAdd_ok cc hr ih) (se_var 1) (se_lv (sa_cons (se_mkxkL 15 0 26 27 cc NS rfl (xc_of c 25 rfl).xa rfl rfl rfl (xiG_14 (c := c)) (hr.mono (two_le _)) rfl (se_var 0)) (sa_nil)) (szl rfl)))) (blkOk_by (N := N_20) (sc := defScope s_20) (by decide +kernel)) (by decide) (fun _ _ _ _ _ cc => pg_name cc.nd rfl (by first | exact Or.inl rfl | exact Or.inr rfl)) (fun _ _ _ _ _ cc => sts_nil) (fun _ _ _ _ _ cc => se_xkL xk_value cc rfl (xk_value_ok c) (se_var 2))))))))
theorem cal_20 (NS : Ns K mg) (n : Nat) (ih : IH c P w mg base n) : Cal (L.gx K c) P w mg base (lv (n + 1)) ((.g "_law_by_value" : Pth).ad K) (run (n + 1) 20) := by
  obtain ⟨M⟩ := c.fn 20 rfl
  have hv : M.dvs = [] := List.eq_nil_of_length_eq_zero (by rw [← (M.rd ⟨[], []⟩ fun _ => none).length]; rfl)
  exact cal_defD (ok_20 NS n ih M) rfl (fun j hj => ⟨[], by rw [hv]; cases j <;> exact .nil, FunD.bindsN (ps := ["_law_thing"]) (hv ▸ M.F) fun _ _ _ _ _ _ us hl => match us, hl with | [_], _ => rfl⟩) M.rd
abbrev N_21 : List Str := ["_law_thing", "_law_names", "_law_words", "_law_spots", "_law_told", "_law_error"]
theorem sc_21 : FnScope N_21 ["_law_thing"] (defScope s_21) := ⟨rfl, rfl, rfl, by decide +kernel, rfl, by decide +kernel, by decide +kernel⟩
theorem ok_21 (NS : Ns K mg) (n : Nat) (ih : IH c P w mg base n) (M : FnM (L.gx K c) ⟨.g "_law_by_word", "_law_by_word", "_law_by_word", s_21, []⟩) : FnOk P w (L.gx K c).K mg base (L2.CX P w) (lv n + 1 + 1) ((.g "_law_by_word" : Pth).ad (L.gx K c).K) M.fd ["_law_thing"] (spF (L.gx K c) (bodyRun N_21.length (m_21 (run n))) (["_law_thing"] : List Str).length) := by
  refine fnd_ok (G := L.gx K c) (k := lv n + 1) (ms := m_21 (run n)) M.F sc_21 fun cdv A outer s H E hr cc => ?_
  exact sss_cons (ss_set (i := 1) cc.nd rfl (by first | exact Or.inl rfl | exact Or.inr rfl) (se_lv (sa_cons (se_mkxL 4 1 29 30 cc NS rfl (xc_of c 28 rfl).xa rfl rfl rfl (xiG_3 (c := c)) (hr.mono (two_le _)) rfl (se_var 0)) (sa_cons (se_mkxL 5 1 32 33 cc NS rfl (xc_of c 31 rfl).xa rfl rfl rfl (xiG_4 (c := c)) (hr.mono (two_le _)) rfl (se_var 0)) (sa_cons (se_mkxL 13 1 35 36 cc NS rfl (xc_of c 34 rfl).xa rfl rfl rfl (xiG_12 (c := c)) (hr.mono (two_le _)) rfl (se_var 0)) (sa_cons (se_mkxkL 4 1 29 30 cc NS rfl (xc_of c 28 rfl).xa rfl rfl rfl (xiG_3 (c := c)) (hr.mono (two_le _)) rfl (se_var 0)) (sa_nil))))) (szl rfl)))
    (sss_cons (ss_set (i := 2) cc.nd rfl (by first | exact Or.inl rfl | exact Or.inr rfl) (se_lv (sa_cons (se_mkxL 6 2 38 39 cc NS rfl (xc_of c 37 rfl).xa rfl rfl rfl (xiG_5 (c := c)) (hr.mono (two_le _)) rfl (se_var 0)) (sa_cons (se_mkxL 7 2 41 42 cc NS rfl (xc_of c 40 rfl).xa rfl rfl rfl (xiG_6 (c := c)) (hr.mono (two_le _)) rfl (se_var 0)) (sa_cons (se_mkxL 17 2 44 45 cc NS rfl (xc_of c 43 rfl).xa rfl rfl rfl (xiG_16 (c := c)) (hr.mono (two_le _)) rfl (se_var 0)) (sa_cons (se_mkxL 18 2 47 48 cc NS rfl (xr_of c 46 rfl) rfl rfl rfl (xiG_17 (c := c)) (hr.mono (two_le _)) rfl (se_var 0)) (sa_cons (se_mkxkL 7 2 41 42 cc NS rfl (xc_of c 40 rfl).xa rfl rfl rfl (xiG_6 (c := c)) (hr.mono (two_le _)) rfl (se_var 0)) (sa_nil)))))) (szl rfl)))
    (sss_cons (ss_set (i := 3) cc.nd rfl (by first | exact Or.inl rfl | exact Or.inr rfl) (se_lv (sa_cons (se_mkxL 2 3 50 51 cc NS rfl (xc_of c 49 rfl).xa rfl rfl rfl (xiG_1 (c := c)) (hr.mono (two_le _)) rfl (se_var 0)) (sa_cons (se_mkxL 16 3 53 54 cc NS rfl (xc_of c 52 rfl).xa rfl rfl rfl (xiG_15 (c := c)) (hr.mono (two_le _)) rfl (se_var 0)) (sa_cons (se_mkxkL 2 3 50 51 cc NS rfl (xc_of c 49 rfl).xa rfl rfl rfl (xiG_1 (c := c)) (hr.mono (two_le _)) rfl (se_var 0)) (sa_nil)))) (szl rfl)))
    (sss_cons (ss_set (i := 4) cc.nd rfl (by first | exact Or.inl rfl | exact Or.inr rfl) (se_bin (oAdd_ok cc hr ih) (se_bin (oAdd_ok cc hr ih) (se_lcc (own := [("_law_error", 5)]) (t := (.one 5)) 1000 cc (si_seq cc (se_var 1)) (blkOk_by (N := N_21) (sc := defScope s_21) (by decide +kernel)) (by decide) (fun _ _ _ _ _ cc => pg_name cc.nd rfl (by first | exact Or.inl rfl | exact Or.inr rfl)) (fun _ _ _ _ _ cc => sts_nil) (fun _ _ _ _ _ cc => se_xkL xk_name cc rfl (xk_name_ok c) (se_var 5))) (se_lcc (own := [("_law_error", 5)]) (t := (.one 5)) 1000 cc (si_seq cc (se_var 2)) (blkOk_by (N := N_21) (sc := defScope s_21) (by decide +kernel)) (by decide) (fun _ _ _ _ _ cc => pg_name cc.nd rfl (by first | exact Or.inl rfl | exact Or.inr rfl)) (fun _ _ _ _ _ cc => sts_nil) (fun _ _ _ _ _ cc => se_xkL xk_word cc rfl (xk_word_ok c) (se_var 5)))) (se_lcc (own := [("_law_error", 5)]) (t := (.one 5)) 1000 cc (si_seq cc (se_var 3)) (blkOk_by (N := N_21) (sc := defScope s_21) (by decide +kernel)) (by decide) (fun _ _ _ _ _ cc => pg_name cc.nd rfl (by first | exact Or.inl rfl | exact Or.inr rfl)) (fun _ _ _ _ _ cc => sts_nil) (fun _ _ _ _ _ cc => se_xkL xk_position cc rfl (xk_position_ok c) (se_var 5)))))
    (sss_one (ss_ret (se_bin (oAdd_ok cc hr ih) (se_var 4) (se_lv (sa_cons (se_xkL xk_access cc rfl (xk_access_ok c) (se_mkxL 10 4 56 57 cc NS rfl (xc_of c 55 rfl).xa rfl rfl rfl (xiG_9 (c := c)) (hr.mono (two_le _)) rfl (se_var 0))) (sa_cons (se_xkL xk_access cc rfl (xk_access_ok c) (se_mkxkL 10 4 56 57 cc NS rfl (xc_of c 55 rfl).xa rfl rfl rfl (xiG_9 (c := c)) (hr.mono (two_le _)) rfl (se_var 0))) (sa_nil))) (szl rfl))))))))
theorem cal_21 (NS : Ns K mg) (n : Nat) (ih : IH c P w mg base n) : Cal (L.gx K c) P w mg base (lv (n + 1)) ((.g "_law_by_word" : Pth).ad K) (run (n + 1) 21) := by
  obtain ⟨M⟩ := c.fn 21 rfl
  have hv : M.dvs = [] := List.eq_nil_of_length_eq_zero (by rw [← (M.rd ⟨[], []⟩ fun _ => none).length]; rfl)
  exact cal_defD (ok_21 NS n ih M) rfl (fun j hj => ⟨[], by rw [hv]; cases j <;> exact .nil, FunD.bindsN (ps := ["_law_thing"]) (hv ▸ M.F) fun _ _ _ _ _ _ us hl => match us, hl with | [_], _ => rfl⟩) M.rd
abbrev N_22 : List Str := []
theorem sc_22 : FnScope N_22 [] (defScope s_22) := ⟨rfl, rfl, rfl, by decide +kernel, rfl, by decide +kernel, by decide +kernel⟩
theorem ok_22 (NS : Ns K mg) (n : Nat) (ih : IH c P w mg base n) (M : FnM (L.gx K c) ⟨.g "_law_all", "_law_all", "_law_all", s_22, []⟩) : FnOk P w (L.gx K c).K mg base (L2.CX P w) (lv n + 1 + 1) ((.g "_law_all" : Pth).ad (L.gx K c).K) M.fd [] (spF (L.gx K c) (bodyRun N_22.length (m_22 (run n))) ([] : List Str).length) := by
  refine fnd_ok (G := L.gx K c) (k := lv n + 1) (ms := m_22 (run n)) M.F sc_22 fun cdv A outer s H E hr cc => ?_
  exact sss_one (ss_ret (se_lv (sa_cons (se_mkxL 1 0 5 6 cc NS rfl (xc_of c 4 rfl).xa rfl rfl rfl (xiG_0 (c := c)) (hr.mono (two_le _)) rfl (se_int)) (sa_cons (se_mkxL 2 3 50 51 cc NS rfl (xc_of c 49 rfl).xa rfl rfl rfl (xiG_1 (c := c)) (hr.mono (two_le _)) rfl (se_int)) (sa_cons (se_mkxL 3 0 8 9 cc NS rfl (xc_of c 7 rfl).xa rfl rfl rfl (xiG_2 (c := c)) (hr.mono (two_le _)) rfl (se_int)) (sa_cons (se_mkxL 4 1 29 30 cc NS rfl (xc_of c 28 rfl).xa rfl rfl rfl (xiG_3 (c := c)) (hr.mono (two_le _)) rfl (se_int)) (sa_cons (se_mkxL 5 1 32 33 cc NS rfl (xc_of c 31 rfl).xa rfl rfl rfl (xiG_4 (c := c)) (hr.mono (two_le _)) rfl (se_int)) (sa_cons (se_mkxL 6 2 38 39 cc NS rfl (xc_of c 37 rfl).xa rfl rfl rfl (xiG_5 (c := c)) (hr.mono (two_le _)) rfl (se_int)) (sa_cons (se_mkxL 7 2 41 42 cc NS rfl (xc_of c 40 rfl).xa rfl rfl rfl (xiG_6 (c := c)) (hr.mono (two_le _)) rfl (se_int)) (sa_cons (se_mkxL 8 0 11 12 cc NS rfl (xc_of c 10 rfl).xa rfl rfl rfl (xiG_7 (c := c)) (hr.mono (two_le _)) rfl (se_int)) (sa_cons (se_mkxL 9 0 14 15 cc NS rfl (xc_of c 13 rfl).xa rfl rfl rfl (xiG_8 (c := c)) (hr.mono (two_le _)) rfl (se_int)) (sa_cons (se_mkxL 10 4 56 57 cc NS rfl (xc_of c 55 rfl).xa rfl rfl rfl (xiG_9 (c := c)) (hr.mono (two_le _)) rfl (se_int)) (sa_cons (se_mkxL 11 0 17 18 cc NS rfl (xc_of c 16 rfl).xa rfl rfl rfl (xiG_10 (c := c)) (hr.mono (two_le _)) rfl (se_int)) (sa_cons (se_mkxL 12 0 20 21 cc NS rfl (xc_of c 19 rfl).xa rfl rfl rfl (xiG_11 (c := c)) (hr.mono (two_le _)) rfl (se_int)) (sa_cons (se_mkxL 13 1 35 36 cc NS rfl (xc_of c 34 rfl).xa rfl rfl rfl (xiG_12 (c := c)) (hr.mono (two_le _)) rfl (se_int)) (sa_cons (se_mkxL 14 0 23 24 cc NS rfl (xc_of c 22 rfl).xa rfl rfl rfl (xiG_13 (c := c)) (hr.mono (two_le _)) rfl (se_int)) (sa_cons (se_mkxL 15 0 26 27 cc NS rfl (xc_of c 25 rfl).xa rfl rfl rfl (xiG_14 (c := c)) (hr.mono (two_le _)) rfl (se_int)) (sa_cons (se_mkxL 16 3 53 54 cc NS rfl (xc_of c 52 rfl).xa rfl rfl rfl (xiG_15 (c := c)) (hr.mono (two_le _)) rfl (se_int)) (sa_cons (se_mkxL 17 2 44 45 cc NS rfl (xc_of c 43 rfl).xa rfl rfl rfl (xiG_16 (c := c)) (hr.mono (two_le _)) rfl (se_int)) (sa_nil)))))))))))))))))) (szl rfl)))
theorem cal_22 (NS : Ns K mg) (n : Nat) (ih : IH c P w mg base n) : Cal (L.gx K c) P w mg base (lv (n + 1)) ((.g "_law_all" : Pth).ad K) (run (n + 1) 22) := by
  obtain ⟨M⟩ := c.fn 22 rfl
  have hv : M.dvs = [] := List.eq_nil_of_length_eq_zero (by rw [← (M.rd ⟨[], []⟩ fun _ => none).length]; rfl)
  exact cal_defD (ok_22 NS n ih M) rfl (fun j hj => ⟨[], by rw [hv]; cases j <;> exact .nil, FunD.bindsN (ps := []) (hv ▸ M.F) fun _ _ _ _ _ _ us hl => match us, hl with | [], _ => rfl⟩) M.rd
abbrev N_23 : List Str := ["_law_error", "_law_found"]
theorem sc_23 : FnScope N_23 ["_law_error"] (defScope s_23) := ⟨rfl, rfl, rfl, by decide +kernel, rfl, by decide +kernel, by decide +kernel⟩
theorem ok_23 (NS : Ns K mg) (n : Nat) (ih : IH c P w mg base n) (M : FnM (L.gx K c) ⟨.g "_law_kinds", "_law_kinds", "_law_kinds", s_23, []⟩) : FnOk P w (L.gx K c).K mg base (L2.CX P w) (lv n + 1 + 1) ((.g "_law_kinds" : Pth).ad (L.gx K c).K) M.fd ["_law_error"] (spF (L.gx K c) (bodyRun N_23.length (m_23 (run n))) (["_law_error"] : List Str).length) := by
  refine fnd_ok (G := L.gx K c) (k := lv n + 1) (ms := m_23 (run n)) M.F sc_23 fun cdv A outer s H E hr cc => ?_
  exact sss_cons (ss_set (i := 1) cc.nd rfl (by first | exact Or.inl rfl | exact Or.inr rfl) (se_lv (sa_cons (se_callB (fns_isxL cc (isxX_ok c)) rfl (NS.free c 58) (by decide +kernel) (sa_cons (se_var 0) (sa_cons (se_cxL 1 6 NS rfl rfl rfl) (sa_nil)))) (sa_cons (se_callB (fns_isxL cc (isxX_ok c)) rfl (NS.free c 58) (by decide +kernel) (sa_cons (se_var 0) (sa_cons (se_cxL 2 51 NS rfl rfl rfl) (sa_nil)))) (sa_cons (se_callB (fns_isxL cc (isxX_ok c)) rfl (NS.free c 58) (by decide +kernel) (sa_cons (se_var 0) (sa_cons (se_cxL 3 9 NS rfl rfl rfl) (sa_nil)))) (sa_nil)))) (szl rfl)))
    (sss_cons (ss_set (i := 1) cc.nd rfl (by first | exact Or.inl rfl | exact Or.inr rfl) (se_bin (oAdd_ok cc hr ih) (se_var 1) (se_lv (sa_cons (se_callB (fns_isxL cc (isxX_ok c)) rfl (NS.free c 58) (by decide +kernel) (sa_cons (se_var 0) (sa_cons (se_cxL 4 30 NS rfl rfl rfl) (sa_nil)))) (sa_cons (se_callB (fns_isxL cc (isxX_ok c)) rfl (NS.free c 58) (by decide +kernel) (sa_cons (se_var 0) (sa_cons (se_cxL 5 33 NS rfl rfl rfl) (sa_nil)))) (sa_cons (se_callB (fns_isxL cc (isxX_ok c)) rfl (NS.free c 58) (by decide +kernel) (sa_cons (se_var 0) (sa_cons (se_cxL 6 39 NS rfl rfl rfl) (sa_nil)))) (sa_nil)))) (szl rfl))))
    (sss_cons (ss_set (i := 1) cc.nd rfl (by first | exact Or.inl rfl | exact Or.inr rfl) (se_bin (oAdd_ok cc hr ih) (se_var 1) (se_lv (sa_cons (se_callB (fns_isxL cc (isxX_ok c)) rfl (NS.free c 58) (by decide +kernel) (sa_cons (se_var 0) (sa_cons (se_cxL 7 42 NS rfl rfl rfl) (sa_nil)))) (sa_cons (se_callB (fns_isxL cc (isxX_ok c)) rfl (NS.free c 58) (by decide +kernel) (sa_cons (se_var 0) (sa_cons (se_cxL 8 12 NS rfl rfl rfl) (sa_nil)))) (sa_cons (se_callB (fns_isxL cc (isxX_ok c)) rfl (NS.free c 58) (by decide +kernel) (sa_cons (se_var 0) (sa_cons (se_cxL 9 15 NS rfl rfl rfl) (sa_nil)))) (sa_nil)))) (szl rfl))))
    (sss_cons (ss_set (i := 1) cc.nd rfl (by first | exact Or.inl rfl | exact Or.inr rfl) (se_bin (oAdd_ok cc hr ih) (se_var 1) (se_lv (sa_cons (se_callB (fns_isxL cc (isxX_ok c)) rfl (NS.free c 58) (by decide +kernel) (sa_cons (se_var 0) (sa_cons (se_cxL 10 57 NS rfl rfl rfl) (sa_nil)))) (sa_cons (se_callB (fns_isxL cc (isxX_ok c)) rfl (NS.free c 58) (by decide +kernel) (sa_cons (se_var 0) (sa_cons (se_cxL 11 18 NS rfl rfl rfl) (sa_nil)))) (sa_cons (se_callB (fns_isxL cc (isxX_ok c)) rfl (NS.free c 58) (by decide +kernel) (sa_cons (se_var 0) (sa_cons (se_cxL 12 21 NS rfl rfl rfl) (sa_nil)))) (sa_nil)))) (szl rfl))))
    (sss_cons (ss_set (i := 1) cc.nd rfl (by first | exact Or.inl rfl | exact Or.inr rfl) (se_bin (oAdd_ok cc hr ih) (se_var 1) (se_lv (sa_cons (se_callB (fns_isxL cc (isxX_ok c)) rfl (NS.free c 58) (by decide +kernel) (sa_cons (se_var 0) (sa_cons (se_cxL 13 36 NS rfl rfl rfl) (sa_nil)))) (sa_cons (se_callB (fns_isxL cc (isxX_ok c)) rfl (NS.free c 58) (by decide +kernel) (sa_cons (se_var 0) (sa_cons (se_cxL 14 24 NS rfl rfl rfl) (sa_nil)))) (sa_cons (se_callB (fns_isxL cc (isxX_ok c)) rfl (NS.free c 58) (by decide +kernel) (sa_cons (se_var 0) (sa_cons (se_cxL 15 27 NS rfl rfl rfl) (sa_nil)))) (sa_nil)))) (szl rfl))))
    (sss_one (ss_ret (se_bin (oAdd_ok cc hr ih) (se_var 1) (se_lv (sa_cons (se_callB (fns_isxL cc (isxX_ok c)) rfl (NS.free c 58) (by decide +kernel) (sa_cons (se_var 0) (sa_cons (se_cxL 16 54 NS rfl rfl rfl) (sa_nil)))) (sa_cons (se_callB (fns_isxL cc (isxX_ok c)) rfl (NS.free c 58) (by decide +kernel) (sa_cons (se_var 0) (sa_cons (se_cxL 17 45 NS rfl rfl rfl) (sa_nil)))) (sa_nil))) (szl rfl)))))))))
theorem cal_23 (NS : Ns K mg) (n : Nat) (ih : IH c P w mg base n) : Cal (L.gx K c) P w mg base (lv (n + 1)) ((.g "_law_kinds" : Pth).ad K) (run (n + 1) 23) := by
  obtain ⟨M⟩ := c.fn 23 rfl
  have hv : M.dvs = [] := List.eq_nil_of_length_eq_zero (by rw [← (M.rd ⟨[], []⟩ fun _ => none).length]; rfl)
  exact cal_defD (ok_23 NS n ih M) rfl (fun j hj => ⟨[], by rw [hv]; cases j <;> exact .nil, FunD.bindsN (ps := ["_law_error"]) (hv ▸ M.F) fun _ _ _ _ _ _ us hl => match us, hl with | [_], _ => rfl⟩) M.rd
abbrev N_24 : List Str := ["_law_script", "_law_pool_here", "_law_thing", "_law_every", "_law_at", "_law_error", "_law_place", "_law_late"]
theorem sc_24 : FnScope N_24 ["_law_script"] (defScope s_24) := ⟨rfl, rfl, rfl, by decide +kernel, rfl, by decide +kernel, by decide +kernel⟩
theorem ok_24 (NS : Ns K mg) (n : Nat) (ih : IH c P w mg base n) (M : FnM (L.gx K c) ⟨.g "law", "law", "law", s_24, []⟩) : FnG P w (L.gx K c).K mg base (L2.CX P w) (lv n + 1 + 1) ((.g "law" : Pth).ad (L.gx K c).K) M.fd ["_law_script"] (spF (L.gx K c) (bodyRun N_24.length (m_24 (run n))) (["_law_script"] : List Str).length) := by
  refine fndG_ok (G := L.gx K c) (k := lv n + 1) (ms := m_24 (run n)) M.F sc_24 fun cdv A outer s H E hr ng cc => ?_
  exact sss_cons (ss_set (i := 1) cc.nd rfl (by first | exact Or.inl rfl | exact Or.inr rfl) (se_call (fns_cal cc (ih.1 18 rfl rfl) (hr.mono (Nat.le_succ _))) rfl (NS.glo c 59) (keep_of c 59) (sa_cons (se_var 0) (sa_cons (se_int) (sa_nil)))))
    (sss_cons (ss_for 1000 cc (si_seq cc (se_lv (sa_cons (se_non) (sa_cons (se_call (fns_cal cc (ih.1 19 rfl rfl) (hr.mono (Nat.le_succ _))) rfl (NS.glo c 60) (keep_of c 60) (sa_cons (se_var 1) (sa_cons (se_bin ops_pow (se_int) (se_int)) (sa_nil)))) (sa_cons (se_str [119, 111, 114, 100]) (sa_cons (se_tup (sa_cons (se_int) (sa_cons (se_int) (sa_nil))) (szl rfl)) (sa_cons (se_lv (sa_cons (se_str [97]) (sa_nil)) (szl rfl)) (sa_cons (se_dv0) (sa_nil))))))) (szl rfl))) (sg_name cc.nd rfl (by first | exact Or.inl rfl | exact Or.inr rfl)) (sss_one (ss_if (st_w (sw_or (st_cmp (oNe_ok cc hr ih) (se_callB (FnS.or (fns_repr 8 cc.k ng (hu_of hr)) (fns_reprE ng (hu_of hr))) rfl (NS.free c 62) (by decide +kernel) (sa_cons (se_call (fns_cal cc (ih.1 20 rfl rfl) (hr.mono (Nat.le_succ _))) rfl (NS.glo c 61) (keep_of c 61) (sa_cons (se_var 2) (sa_nil))) (sa_nil))) (se_callB (FnS.or (fns_repr 8 cc.k ng (hu_of hr)) (fns_reprE ng (hu_of hr))) rfl (NS.free c 62) (by decide +kernel) (sa_cons (se_bin (ops_repL false) (se_lv (sa_cons (se_var 2) (sa_nil)) (szl rfl)) (se_int)) (sa_nil)))) (sw_or1 (st_cmp (oNe_ok cc hr ih) (se_callB (FnS.or (fns_repr 8 cc.k ng (hu_of hr)) (fns_reprE ng (hu_of hr))) rfl (NS.free c 62) (by decide +kernel) (sa_cons (se_call (fns_cal cc (ih.1 21 rfl rfl) (hr.mono (Nat.le_succ _))) rfl (NS.glo c 63) (keep_of c 63) (sa_cons (se_var 2) (sa_nil))) (sa_nil))) (se_callB (FnS.or (fns_repr 8 cc.k ng (hu_of hr)) (fns_reprE ng (hu_of hr))) rfl (NS.free c 62) (by decide +kernel) (sa_cons (se_bin (ops_repL false) (se_lv (sa_cons (se_var 2) (sa_nil)) (szl rfl)) (se_int)) (sa_nil))))))) (sss_one (ss_ret (se_bl))) (sss_nil))))
    (sss_cons (ss_set (i := 3) cc.nd rfl (by first | exact Or.inl rfl | exact Or.inr rfl) (se_call0 (fns_cal cc (ih.1 22 rfl rfl) (hr.mono (Nat.le_succ _))) rfl (NS.glo c 64) (keep_of c 64)))
    (sss_cons (ss_for 1000 cc (si_en cc (se_var 3) rfl (NS.free c 65)) (sg_tup cc (sgs_cons (sg_name cc.nd rfl (by first | exact Or.inl rfl | exact Or.inr rfl)) (sgs_cons (sg_name cc.nd rfl (by first | exact Or.inl rfl | exact Or.inr rfl)) (sgs_nil)))) (sss_cons (ss_if (st_cmp (oNe_ok cc hr ih) (se_call (fns_cal cc (ih.1 23 rfl rfl) (hr.mono (Nat.le_succ _))) rfl (NS.glo c 66) (keep_of c 66) (sa_cons (se_var 5) (sa_nil))) (se_lcc (own := [("_law_place", 6)]) (t := (.one 6)) 1000 cc (si_range1 (sa_cons (se_int) (sa_nil)) rfl (NS.free c 67)) (blkOk_by (N := N_24) (sc := defScope s_24) (by decide +kernel)) (by decide) (fun _ _ _ _ _ cc => pg_name cc.nd rfl (by first | exact Or.inl rfl | exact Or.inr rfl)) (fun _ _ _ _ _ cc => sts_nil) (fun _ _ _ _ _ cc => se_cmp (oEq_ok cc hr ih) (se_var 6) (se_var 4)))) (sss_one (ss_ret (se_bl))) (sss_nil))
    (sss_one (ss_if (st_w (sw_or (st_not (st_tru cc (se_callB (fns_isxL cc (isxX_ok c)) rfl (NS.free c 58) (by decide +kernel) (sa_cons (se_var 5) (sa_cons (se_cxL 0 68 NS rfl rfl rfl) (sa_nil)))))) (sw_or (st_not (st_tru cc (se_callB (fns_isxL cc (isxX_ok c)) rfl (NS.free c 58) (by decide +kernel) (sa_cons (se_var 5) (sa_cons (se_bltn rfl (NS.free c 69) (by decide +kernel)) (sa_nil)))))) (sw_or1 (st_tru cc (se_callB (fns_isxL cc (isxX_ok c)) rfl (NS.free c 58) (by decide +kernel) (sa_cons (se_var 5) (sa_cons (se_bltn rfl (NS.free c 70) (by decide +kernel)) (sa_nil))))))))) (sss_one (ss_ret (se_bl))) (sss_nil)))))
    (sss_cons (ss_set (i := 7) cc.nd rfl (by first | exact Or.inl rfl | exact Or.inr rfl) (se_mkxL 18 2 47 48 cc NS rfl (xr_of c 46 rfl) rfl rfl rfl (xiG_17 (c := c)) (hr.mono (two_le _)) rfl (se_str [115, 116, 101, 112, 115])))
    (sss_one (ss_ret (se_and (se_callB (fns_isxL cc (isxX_ok c)) rfl (NS.free c 58) (by decide +kernel) (sa_cons (se_var 7) (sa_cons (se_bltn rfl (NS.free c 70) (by decide +kernel)) (sa_nil)))) (se_and (se_not (se_callB (fns_isxL cc (isxX_ok c)) rfl (NS.free c 58) (by decide +kernel) (sa_cons (se_var 7) (sa_cons (se_bltn rfl (NS.free c 69) (by decide +kernel)) (sa_nil))))) (se_one (se_cmp (ops_notIn cc) (se_bl) (se_call (fns_cal cc (ih.1 23 rfl rfl) (hr.mono (Nat.le_succ _))) rfl (NS.glo c 66) (keep_of c 66) (sa_cons (se_var 7) (sa_nil)))))))))))))
theorem cal_24 (NS : Ns K mg) (n : Nat) (ih : IH c P w mg base n) : CalG (L.gx K c) P w mg base (lv (n + 1)) ((.g "law" : Pth).ad K) (run (n + 1) 24) := by
  obtain ⟨M⟩ := c.fn 24 rfl
  have hv : M.dvs = [] := List.eq_nil_of_length_eq_zero (by rw [← (M.rd ⟨[], []⟩ fun _ => none).length]; rfl)
  exact calG_defD (ok_24 NS n ih M) rfl (fun j hj => ⟨[], by rw [hv]; cases j <;> exact .nil, FunD.bindsN (ps := ["_law_script"]) (hv ▸ M.F) fun _ _ _ _ _ _ us hl => match us, hl with | [_], _ => rfl⟩) M.rd
theorem all (NS : Ns K mg) : ∀ n, IH c P w mg base n
  | 0 => ⟨fun j _ _ _ => cal0, fun j _ _ => calG0⟩
  | n + 1 => by
    have ih := all NS n
    have one : ∀ (j : Nat) {d : DefM}, defs[j]? = some d → isG j = false → Cal (L.gx K c) P w mg base (lv (n + 1)) (d.pth.ad K) (run (n + 1) j) := fun j d h z => by
      match j, h with
      | 0, h => cases h; exact cal0
      | 1, h => cases h; exact cal0
      | 2, h => cases h; exact cal0
      | 3, h => cases h; exact cal0
      | 4, h => cases h; exact cal0
      | 5, h => cases h; exact cal0
      | 6, h => cases h; exact cal0
      | 7, h => cases h; exact cal0
      | 8, h => cases h; exact cal0
      | 9, h => cases h; exact cal0
      | 10, h => cases h; exact cal0
      | 11, h => cases h; exact cal0
      | 12, h => cases h; exact cal0
      | 13, h => cases h; exact cal0
      | 14, h => cases h; exact cal0
      | 15, h => cases h; exact cal0
      | 16, h => cases h; exact cal0
      | 17, h => cases h; exact cal0
      | 18, h => cases h; exact cal_18 NS n ih
      | 19, h => cases h; exact cal_19 NS n ih
      | 20, h => cases h; exact cal_20 NS n ih
      | 21, h => cases h; exact cal_21 NS n ih
      | 22, h => cases h; exact cal_22 NS n ih
      | 23, h => cases h; exact cal_23 NS n ih
      | 24, h => cases z
      | k + 25, h => exact absurd h (by simp [defs])
    refine ⟨one, fun j d h => ?_⟩
    match j, h with
    | 0, h => exact (one 0 h rfl).toG
    | 1, h => exact (one 1 h rfl).toG
    | 2, h => exact (one 2 h rfl).toG
    | 3, h => exact (one 3 h rfl).toG
    | 4, h => exact (one 4 h rfl).toG
    | 5, h => exact (one 5 h rfl).toG
    | 6, h => exact (one 6 h rfl).toG
    | 7, h => exact (one 7 h rfl).toG
    | 8, h => exact (one 8 h rfl).toG
    | 9, h => exact (one 9 h rfl).toG
    | 10, h => exact (one 10 h rfl).toG
    | 11, h => exact (one 11 h rfl).toG
    | 12, h => exact (one 12 h rfl).toG
    | 13, h => exact (one 13 h rfl).toG
    | 14, h => exact (one 14 h rfl).toG
    | 15, h => exact (one 15 h rfl).toG
    | 16, h => exact (one 16 h rfl).toG
    | 17, h => exact (one 17 h rfl).toG
    | 18, h => exact (one 18 h rfl).toG
    | 19, h => exact (one 19 h rfl).toG
    | 20, h => exact (one 20 h rfl).toG
    | 21, h => exact (one 21 h rfl).toG
    | 22, h => exact (one 22 h rfl).toG
    | 23, h => exact (one 23 h rfl).toG
    | 24, h => cases h; exact cal_24 NS n ih
    | k + 25, h => exact absurd h (by simp [defs])
end
end L2.Mi.Pg

set_option Elab.async false
set_option linter.all false
set_option maxRecDepth 100000
set_option maxHeartbeats 4000000
namespace L2.Mi.Pg
open PySem PySem.Spec PyProof.Rows
theorem ob_eq (s : PySem.W.SharedT) : ob s = hk.obs s.abs := Lw.obsG_eq (HandSHeadRun.getT_eq s)
end L2.Mi.Pg

set_option Elab.async false
set_option linter.all false
set_option maxRecDepth 100000
set_option maxHeartbeats 1000000
namespace L2.Mi.Pg
open PySem
section
variable {S : Store} {i n : Nat} {w : Int} {E : Xn → Store → Prop}
theorem tk_ok (hp : Pool S i) (w0 : 0 < w) (w1 : w < 2 ^ 31) : ∃ r S', run (n + 1) 19 [.ref i, .int w] S = .ok (.int r) S' ∧ 0 ≤ r ∧ r < w ∧ Pool S' i ∧ Fr S S' i ∧ S'.size = S.size := by
  obtain ⟨r, o, e, h1, h2, h3⟩ := take_ok (oA := oAdd (run n)) (oM := oMul (run n)) opsI_or hp w0 w1
  exact ⟨r, _, by rw [run_19]; exact e, h1, h2, h3, Fr.set, Store.size_set _ _ _⟩
theorem tk (hp : Pool S i) (w0 : 0 < w) (w1 : w < 2 ^ 31) : (run (n + 1) 19 [.ref i, .int w] S).sat (fun v S' => ∃ r, v = .int r ∧ 0 ≤ r ∧ r < w ∧ Pool S' i ∧ Fr S S' i ∧ S'.size = S.size) E := by
  obtain ⟨r, S', e, h⟩ := tk_ok (n := n) hp w0 w1
  rw [e]
  exact ⟨r, rfl, h⟩
theorem pl {ns : List Int} {k : Nat} (hk : k < 1000) (hl : ns.length ≤ 1000) : (run (n + 1) 18 [.fl (ns.map D.int), .int (k : Int)] S).sat (fun v S' => v = .ref S.size ∧ Pool S' S.size ∧ Fr S S' S.size ∧ S'.size = S.size + 1) E := by
  obtain ⟨o, e, h⟩ := pool_ok (lx := lenF) (oA := oAdd (run n)) (oM := oMul (run n)) (S := S) (ns := ns) opsI_or (by rfl) hk hl
  rw [run_18]
  refine sat_eq e ⟨rfl, h, Fr.push, Store.size_push _ _⟩
end
end L2.Mi.Pg

set_option Elab.async false
set_option linter.all false
set_option maxRecDepth 100000
set_option maxHeartbeats 1000000
namespace L2.Mi.Pg
open PySem
@[irreducible] def b24 (call : Nat → FN) : MS := (sIf (tOr (tOf (eBin (oNe call) (eFn (fnOr (reprF 8) reprE) (aList [eFn (call 20) (aList [eVar 2])])) (eFn (fnOr (reprF 8) reprE) (aList [eBin (repLk false) (eLv [eVar 2]) (eC (.int 16))])))) (tOf (eBin (oNe call) (eFn (fnOr (reprF 8) reprE) (aList [eFn (call 21) (aList [eVar 2])])) (eFn (fnOr (reprF 8) reprE) (aList [eBin (repLk false) (eLv [eVar 2]) (eC (.int 14))]))))) (sRet (eC (.bl false))) (sNext))
@[irreducible] def t24 (call : Nat → FN) : MS := (sSeq (sSet 3 (eFn (call 22) (aList [])))
    (sSeq (sFor (iEn (eVar 3)) (gTup [gName 4, gName 5]) (sSeq (sIf (tOf (eBin (oNe call) (eFn (call 23) (aList [eVar 5])) (eLcV (iRange1 (eC (.int 17))) (.one 6) (tYesM) (eBin (oEq call) (eVar 6) (eVar 4)) [6] 1000))) (sRet (eC (.bl false))) (sNext))
    (sIf (tOr (tNot (tTru (eFn (isxF isxX) (aList [eVar 5, eC (.cx 0)])))) (tOr (tNot (tTru (eFn (isxF isxX) (aList [eVar 5, eC (.ty "ValueError")])))) (tTru (eFn (isxF isxX) (aList [eVar 5, eC (.ty "RuntimeError")]))))) (sRet (eC (.bl false))) (sNext))) 1000)
    (sSeq (sSet 7 (eMkx 18 2 (eC (.str [115, 116, 101, 112, 115]))))
    (sRet (eAnd (eFn (isxF isxX) (aList [eVar 7, eC (.ty "RuntimeError")])) (eAnd (eNot (eFn (isxF isxX) (aList [eVar 7, eC (.ty "ValueError")]))) (eBin (inF true) (eC (.bl true)) (eFn (call 23) (aList [eVar 7])))))))))
@[irreducible] def i24 (call : Nat → FN) : MI := (iSeq (eLv [eC .non, eFn (call 19) (aList [eVar 1, eBin powI (eC (.int 10)) (eC (.int 9))]), eC (.str [119, 111, 114, 100]), eTup [eC (.int 1), eC (.int 2)], eLv [eC (.str [97])], eDv0]))
theorem m24 {call : Nat → FN} : m_24 call = sSeq (sSet 1 (eFn (call 18) (aList [eVar 0, eC (.int 0)]))) (sSeq (sFor (i24 call) (gName 2) (b24 call) 1000) (t24 call)) := by
  unfold b24 t24 i24
  rfl

section
variable {S : Store} {n : Nat} {a b d : D}
theorem by_value : run (n + 3) 20 [d] S = .ok (.lv (List.replicate 16 d)) S := by kernel_rfl
theorem by_word : run (n + 3) 21 [d] S = .ok (.lv (List.replicate 14 d)) S := by kernel_rfl
theorem tail_ok : t24 (run (n + 3)) [some a, some b, some d, none, none, none, none, none] S = .rt (.bl true) S := by
  unfold t24
  kernel_rfl
abbrev rep : FN := fnOr (reprF 8) reprE
/-- lists of 16 and of 14 have texts -/
def RO (d : D) : Prop := ∀ S, (∃ x, Txt x ∧ rep [.lv (List.replicate 16 d)] S = .ok (.str x) S) ∧ ∃ x, Txt x ∧ rep [.lv (List.replicate 14 d)] S = .ok (.str x) S
theorem sok_str (s : String) : PyData.strOk (Str.ofString s) = true := by
  rw [Str.ofString_eq_toList]
  unfold PyData.strOk
  rw [← Array.all_toList, List.all_eq_true]
  intro c hc
  simp only [List.mem_map] at hc
  obtain ⟨ch, _, rfl⟩ := hc
  refine decide_eq_true ?_
  have := ch.valid
  show ch.val.toNat < 0x110000
  unfold UInt32.isValidChar Nat.isValidChar at this
  omega
theorem ro_int {x : Int} (h0 : 0 ≤ x) (h1 : x < 10 ^ 9) : RO (.int x) := by
  have one : ∀ k, k ≤ 16 → ∀ S, ∃ y, Txt y ∧ rep [.lv (List.replicate k (.int x))] S = .ok (.str y) S := by
    intro k hk S
    have hlog : x.natAbs.log2 < 1920 := by
      have h30 : x.natAbs.log2 < 30 := by
        by_cases hz : x.natAbs = 0
        · rw [hz]; decide
        · rw [Nat.log2_lt hz]; omega
      omega
    have ok : ∀ k, okDs 0 (List.replicate k (.int x)) = true := by
      intro k
      induction k with
      | zero => rfl
      | succ k ih => rw [List.replicate_succ]; unfold okDs; rw [ih]; rfl
    have io : ∀ k, intOks (List.replicate k (.int x)) = true := by
      intro k
      induction k with
      | zero => rfl
      | succ k ih =>
        rw [List.replicate_succ]
        unfold intOks intOk
        rw [ih, decide_eq_true hlog]
        rfl
    have rz : ∀ k, rszs (List.replicate k (.int x)) = k * 1923 := by
      intro k
      induction k with
      | zero => simp [rszs]
      | succ k ih => rw [List.replicate_succ]; unfold rszs rsz; rw [ih]; omega
    have sh : ∀ k, ∀ t ∈ PyData.shownAll (toPs (List.replicate k (.int x))), PyData.strOk t = true := by
      intro k
      induction k with
      | zero => intro t ht; unfold toPs at ht; simp [PyData.shownAll] at ht
      | succ k ih =>
        intro t ht
        rw [List.replicate_succ] at ht
        unfold toPs toP at ht
        simp only [PyData.shownAll, List.mem_cons, PyData.shown] at ht
        rcases ht with rfl | ht
        · exact sok_str _
        · exact ih t ht
    have z : reprF 8 [.lv (List.replicate k (.int x))] S = .ok (.str (rtx (.lv (List.replicate k (.int x))))) S := repr_ok 1 (by unfold okD; exact ok k) (by omega) (by unfold intOk; exact io k) (by unfold rsz; rw [rz]; omega)
    refine ⟨rtx (.lv (List.replicate k (.int x))), ?_, by show orB _ _ = _; rw [z]; rfl⟩
    have this : PyData.strOk (toP (.lv (List.replicate k (.int x)))).shown = true := by
      unfold toP
      simp only [PyData.shown]
      exact sok_list (sh k)
    unfold PyData.strOk at this
    rw [← Array.all_toList, List.all_eq_true] at this
    intro c hc
    exact of_decide_eq_true (this c hc)
  exact fun S => ⟨one 16 (by omega) S, one 14 (by omega) S⟩
def txtOf (k : Nat) (d : D) : List Nat := match rep [.lv (List.replicate k d)] ⟨[]⟩ with | .ok (.str x) _ => x | _ => []
theorem ro_non : RO .non := fun S => ⟨⟨txtOf 16 .non, Txt.all (by kernel_rfl), by kernel_rfl⟩, ⟨txtOf 14 .non, Txt.all (by kernel_rfl), by kernel_rfl⟩⟩
abbrev dW : D := .str [119, 111, 114, 100]
abbrev dT : D := .tup [.int 1, .int 2]
abbrev dA : D := .lv [.str [97]]
abbrev dE : D := .dv false []
theorem ro_w : RO dW := fun S => ⟨⟨txtOf 16 dW, Txt.all (by kernel_rfl), by kernel_rfl⟩, ⟨txtOf 14 dW, Txt.all (by kernel_rfl), by kernel_rfl⟩⟩
theorem ro_t : RO dT := fun S => ⟨⟨txtOf 16 dT, Txt.all (by kernel_rfl), by kernel_rfl⟩, ⟨txtOf 14 dT, Txt.all (by kernel_rfl), by kernel_rfl⟩⟩
theorem ro_a : RO dA := fun S => ⟨⟨txtOf 16 dA, Txt.all (by kernel_rfl), by kernel_rfl⟩, ⟨txtOf 14 dA, Txt.all (by kernel_rfl), by kernel_rfl⟩⟩
theorem ro_e : RO dE := fun S => ⟨⟨txtOf 16 dE, Txt.all (by kernel_rfl), by kernel_rfl⟩, ⟨txtOf 14 dE, Txt.all (by kernel_rfl), by kernel_rfl⟩⟩
theorem turn_ok (h : RO d) : b24 (run (n + 3)) [some a, some b, some d, none, none, none, none, none] S = .nx [some a, some b, some d, none, none, none, none, none] S := by
  obtain ⟨⟨x, tx, ex⟩, y, ty, ey⟩ := h S
  unfold b24
  have r16 : repLk false (.lv [d]) (.int 16) S = .ok (.lv (List.replicate 16 d)) S := rep_lv (k := 16) (by omega)
  have r14 : repLk false (.lv [d]) (.int 14) S = .ok (.lv (List.replicate 14 d)) S := rep_lv (k := 14) (by omega)
  simp only [sIf_ev, tOr_ev, tOf_ev, eBin_ev, eFn_ev, aList_cons, aList_nil, eVar_s, eVar_0, eC_ev, eLv_ev, bind_ok', by_value, by_word, r16, r14, ex, ey, oNe, neF_str tx tx, neF_str ty ty, beq_self_eq_true, Bool.not_true, Bool.false_eq_true, if_false]
  rfl
theorem good_ok {ns : List Int} (hl : ns.length ≤ 63) : (fin (m_24 (run (n + 4)) [some (.fl (ns.map D.int)), none, none, none, none, none, none, none] ⟨[]⟩)).sat (fun d _ => d = .bl true) NoX := by
  refine sat_fin ?_
  rw [m24]
  have e18 := pl (S := ⟨[]⟩) (n := n + 3) (E := NoX) (ns := ns) (k := 0) (by omega) (by omega)
  simp only [sat_seq, sat_set, eFn_ev, aList_cons, aList_nil, eVar_0, eC_ev, bind_ok']
  refine e18.imp (fun v S1 ⟨hv, hp, f1, hs⟩ => ?_) fun _ _ h => h.elim
  subst hv
  simp only [List.set_cons_succ, List.set_cons_zero]
  obtain ⟨r, S2, e, r0, r1, hp2, f2, hs2⟩ := tk_ok (n := n + 3) hp (w := 10 ^ 9) (by omega) (by omega)
  have hw : Walk (i24 (run (n + 4))) [some (.fl (ns.map D.int)), some (.ref (Store.size ⟨[]⟩)), none, none, none, none, none, none] S1 [.non, .int r, dW, dT, dA, dE] S2 := by
    unfold i24
    refine walk_seq (d := .lv [.non, .int r, dW, dT, dA, dE]) ?_ rfl
    have ep : powI (.int 10) (.int 9) S1 = .ok (.int (10 ^ 9)) S1 := rfl
    simp only [eLv_ev, aList_cons, aList_nil, eC_ev, bind_ok', eFn_ev, eVar_s, eVar_0, eBin_ev, ep, e, eTup_ev, eDv0_ev]
  refine for_sat (fun ds σ S' => (∃ o, σ = [some (.fl (ns.map D.int)), some (.ref (Store.size ⟨[]⟩)), o, none, none, none, none, none] ∧ (ds = [] → ∃ d, o = some d)) ∧ ∀ d ∈ ds, RO d) hw (by simp) ⟨⟨_, rfl, fun h => nomatch h⟩, fun d hd => ?_⟩ ?_ ?_
  · simp only [List.mem_cons, List.not_mem_nil, or_false] at hd
    rcases hd with rfl | rfl | rfl | rfl | rfl | rfl
    · exact ro_non
    · exact ro_int r0 r1
    · exact ro_w
    · exact ro_t
    · exact ro_a
    · exact ro_e
  · rintro d ds σ S' ⟨⟨o, rfl, _⟩, hd⟩
    simp only [gName_ev, sat_ok, List.set_cons_succ, List.set_cons_zero]
    rw [turn_ok (n := n + 1) (hd d (by simp))]
    exact ⟨⟨_, rfl, fun _ => ⟨_, rfl⟩⟩, fun d hd' => hd d (by simp [hd'])⟩
  · rintro σ S' ⟨⟨o, rfl, ho⟩, _⟩
    obtain ⟨d, rfl⟩ := ho rfl
    dsimp only
    rw [tail_ok (n := n + 1)]
    exact rfl
end
end L2.Mi.Pg
namespace Law
open PySem L2.Mi L2.Mi.Pg
theorem good (ns : List Int) (hl : ns.length ≤ 63) (hb : ∀ z ∈ ns, Builtin.Int.intBits z ≤ 1048576) : ∃ S, bodyRun 8 (L2.Mi.Pg.m_24 (L2.Mi.Pg.run 30)) [.fl (ns.map D.int)] ⟨[]⟩ = .ok (.bl true) S := by
  have h := good_ok (n := 26) (ns := ns) hl
  obtain ⟨a, S, e, rfl⟩ := sat_ex h
  exact ⟨S, e⟩
end Law


open PySem PySem.W PySem.Calls PyProof.Rows L2.Mi
set_option maxRecDepth 100000 in
set_option maxHeartbeats 0 in
theorem PySem.Challenge.cw_farmisses_k13_errors_of_the_package_holds : PySem.Challenge.rw_farmisses_k13_errors_of_the_package.Holds := by
  w_on; o_law
  refine HandSHeadRun.head_any (r := OpenLaw.row PySem.Challenge.rw_farmisses_k13_errors_of_the_package) (q := view (OpenLaw.row PySem.Challenge.rw_farmisses_k13_errors_of_the_package).prog [27]) (H := L2.Mi.Pg.hk) (ob := L2.Mi.Pg.ob) (M := 20000) (loose := L2.Mi.Pg.loose) (d := HandSHeadRun.topDef (OpenLaw.row PySem.Challenge.rw_farmisses_k13_errors_of_the_package).prog 27) (kwd := []) L2.Mi.Pg.ob_eq
    (by kernel_rfl) (fun s => by kernel_rfl) L2.Mi.Pg.head (by kernel_rfl) (by kernel_rfl) (by kernel_rfl) (by rfl) (by first | assumption | decide +kernel) (by decide +kernel) ⟨rfl, rfl, rfl, rfl, rfl, by decide +kernel⟩ ?hw ?hc
  case hw => w_witness2
  case hc =>
    refine walkG (l := PySem.Challenge.rw_farmisses_k13_errors_of_the_package) (n := 63) (k := lv 30 + 2) (x := "_law_script") (L := L2.Mi.Pg.L) (run := bodyRun 8 (L2.Mi.Pg.m_24 (L2.Mi.Pg.run 30))) rfl (by decide) (by kernel_rfl) ⟨rfl, by decide, by decide⟩ rfl ?F Law.good
    intro w mg fa K c NS hmg0
    have hmg : mg ("law" : PySem.Str) = some (.ref fa) := by
      have e : (HandSHeadRun.topDef (OpenLaw.row PySem.Challenge.rw_farmisses_k13_errors_of_the_package).prog 27).name = ("law" : PySem.Str) := by kernel_rfl
      rw [← e]
      exact hmg0
    obtain ⟨M⟩ := c.fn 24 rfl
    have hv : M.dvs = [] := List.eq_nil_of_length_eq_zero (by rw [← (M.rd ⟨[], []⟩ fun _ => none).length]; rfl)
    have e := hmg.symm.trans (NS.glo c 0)
    cases e
    have b := L2.FunD.bindsA (ps := ["_law_script"]) (hv ▸ M.F) fun _ _ _ _ _ _ us hl => match us, hl with | [_], _ => rfl
    exact ⟨M.fd, fun s v => b s [v] rfl, fun base _ _ => L2.Mi.Pg.ok_24 NS 30 (L2.Mi.Pg.all NS 30) M⟩
#print axioms PySem.Challenge.cw_farmisses_k13_errors_of_the_package_holds

