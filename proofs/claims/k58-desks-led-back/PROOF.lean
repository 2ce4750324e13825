import PyProof.Rows.All
import Wide.All
import OpenK.AllK
import Wide.FinOn
import PyProof.EqAt
import PyProof.EqKinds
import PyProof.TupleCall
import KE.KStateDown
import KE.SortData
import KE.GoesMore
import Lean
import HandS.ForMost
import HandS.ForExc
import HandS.More
import HandS.Flow
import HandS.Style
import HandS.NoneIn
import HandS.Conv
import HandS.Codes
import HandS.Star
import HandS.Small
import HandS.IsInst
import HandS.TupAny
import HandS.ExcInit
import HandS.ExcField
import HandS.TryMany
import HandS.CallLocal
import HandS.CallSlots
import HandS.Lambda
import HandS.EndTab
import HandS.Property
import HandS.ClsMeth
import HandS.Evl
import HandS.Steps
import HandS.SortKw
import HandS.WrittenGet
import HandS.Defaults
import HandS.Head0
import HandS.Head1
import HandS.Head2
import HandS.HeadEnd
import HandS.HeadHook1
import HandS.HeadHook2
import HandS.HeadHook3
import HandS.HeadHook4
import HandS.HeadWalk
import HandS.HeadNt
import PySem.Challenge.RW_onlyanswer_k58_whole_desks_led_back
import KE.KExcInit
import KE.SortKeyHeap
import KE.KSortKey
import KE.KDictPairs
import HandS.Walk
section
set_option Elab.async false
set_option maxRecDepth 100000
namespace Ky
open PySem L2
abbrev St := L2.St
def top (i : Nat) : Stmt := PySem.Challenge.pw_onlyanswer_k58_whole_desks_led_back.main.body.getD i (.Pass ⟨0, 0, 0, 0⟩)
theorem scTake : FnScope ["_law_well_here", "_law_top", "_law_digit"] ["_law_well_here", "_law_top"] (defScope (top 103)) := ⟨rfl, rfl, rfl, by decide +kernel, rfl, by decide +kernel, by decide +kernel⟩
end Ky
end

section
set_option maxRecDepth 100000
namespace Ky
open PySem PySem.Spec PyProof.Rows L2
abbrev sRank : Stmt := top 43
abbrev sEnded : Stmt := top 106
def sLetters : Str := "abcdefghijklmnopqrstuvwxyz"
def sFigures : Str := "0123456789"
def sParted : Str := " / "
abbrev sIsInt : Stmt := top 26
abbrev sBetween : Stmt := top 27
abbrev sIsName : Stmt := top 28
abbrev sNumIn : Stmt := top 29
abbrev sSigned : Stmt := top 30
abbrev sFault : Stmt := top 58
abbrev sRowsIn : Stmt := top 60
abbrev sTabInit : Stmt := inClass (top 59) 0
abbrev sRead : Stmt := inClass (top 59) 1
abbrev sText : Stmt := inClass (top 59) 3
abbrev sCheckT : Stmt := top 61
abbrev sSets : Stmt := top 44
abbrev sCut : Stmt := top 47
abbrev sDet : Stmt := top 46
abbrev sFirst : Stmt := top 66
abbrev sBadLot : Stmt := top 68
abbrev sSingle : Stmt := top 94
abbrev sFaultOf : Stmt := top 97
abbrev sNamesIn : Stmt := top 93
abbrev sIsClaim : Stmt := top 92
abbrev sShInit : Stmt := inClass (top 99) 0
abbrev nLE : String := "LookupError.__new__"
abbrev nAE : String := "ArithmeticError.__new__"
abbrev sBkInit : Stmt := inClass (top 18) 0
abbrev sUnInit : Stmt := inClass (top 11) 0
abbrev sIuInit : Stmt := inClass (top 12) 0
abbrev sChk : Stmt := inClass (top 100) 1
abbrev sNames : Stmt := inClass (top 100) 9
abbrev sClaims : Stmt := inClass (top 100) 10
abbrev sChanges : Stmt := inClass (top 100) 11
abbrev sCont : Stmt := inClass (top 100) 12
abbrev sKnown : Stmt := inClass (top 100) 3
abbrev sThing : Stmt := inClass (top 100) 4
abbrev sUndo : Stmt := inClass (top 100) 8
abbrev sDkInit : Stmt := inClass (top 100) 0
abbrev sLift : Stmt := inClass (top 100) 7
abbrev sDrop : Stmt := inClass (top 100) 5
abbrev sClaim : Stmt := inClass (top 100) 6
abbrev sPut : Stmt := inClass (top 100) 2
abbrev sTake : Stmt := top 103
abbrev sOne : Stmt := top 104
abbrev sSheets : Stmt := top 107
abbrev sWell : Stmt := top 102
abbrev sNm : Stmt := top 105
abbrev sSeen : Stmt := top 108
abbrev sStand : Stmt := top 109
abbrev sDone : Stmt := top 110
abbrev sRight : Stmt := top 111
abbrev sLaw : Stmt := top 112
end Ky
end

section
set_option Elab.async false
set_option linter.all false
set_option maxRecDepth 100000
set_option maxHeartbeats 2000000
/-! an own exception class with its own __init__, over any built-in base -/
namespace PySem
namespace Ky2
open PySem.W PySem.Calls PyProof.Rows PySem.HandSPX
open Builtin Builtin.ObjectAttr
variable {prog : Program} {w : World} {A : Around} {E : Value → Shared → Prop} {R : Result → Shared → Prop} {hp : Heap} {g : Array GenState} {d : Drawn} {t : Nat} {os : OsState}
/-- what the base's mro must bear -/
structure BmOk (bmB : List Value) : Prop where
  obj : bmB.contains (.type "object") = true
  ref : ∀ self : Value, refuseLoop self "__setattr__" bmB = pure ()
theorem bm_ne {bmB l : List Value} (B : BmOk bmB) (h : excTail bmB l = true) : l.isEmpty = false := by
  have q := excTail_contains "object" l h
  rw [B.obj] at q
  cases l with
  | nil => cases q
  | cons a r => rfl
theorem exc_osaB {bmB : List Value} (B : BmOk bmB) {K : W.Frag} {name : Str} {tk : Tok} {v : Value} {x C : Addr} {fv : Array Value} {cd : ClassData}
    (X : K.In hp) (hx : hp.get? x = some { cls := .ref C, data := .fields fv }) (hcd : W.clsIn K C = some cd) (hm : excTail bmB cd.mro = true) (hh : cd.hasDict = true) (ha : W.findIn K (.ref C) name = some none)
    (hq : ∀ h' tk' dx, (∀ b o, b ≠ x → hp.get? b = some o → h'.get? b = some o) → hp.objs.size ≤ dx → dx ≠ x → h'.get? x = some { cls := .ref C, dict := some dx, data := .fields fv } →
      h'.Ns1 dx (fun y => if y = name then some v else none) → R (.ok (.ret .none)) ⟨h', g, d, tk', os⟩) :
    codeAny (model prog w) A (.call (.builtin "object.__setattr__") ⟨[.ref x, .str name tk, v], []⟩) R ⟨hp, g, d, t, os⟩ := by
  have I : W.InstAt hp x { cls := .ref C, data := .fields fv } C none := ⟨hx, rfl, rfl, trivial⟩
  have SF := F.store_object
  have ne := bm_ne B hm
  have hob : cd.mro.contains (.type "object") = true := (excTail_contains "object" _ hm).trans B.obj
  have hxs : x ≠ hp.objs.size := Nat.ne_of_lt (Heap.lt_size hx)
  have sub : W.Looks (model prog w) hp (isInstance (.ref x) (.type "object")) true := I.type.andThen (W.looks_mroIn X (by unfold W.mroIn; rw [hcd, Option.bind_some, if_neg (by rw [ne]; decide), hob]))
  refine codeAny_call_builtin SF.slot.plain SF.entry (@W.check_slot (model prog w) _ _ ⟨hp, g, d, t, os⟩ "object.__setattr__" "object" "__setattr__" (.ref x) [.str name tk, v] [] _ SF.kind SF.split sub (SF.args (.ref x) (.str name tk) v) ?_)
  have hmr : W.Looks (model prog w) hp (mroOf (.ref C)) cd.mro := (W.looks_clsIn X hcd).andThen .now
  have L3 : W.Looks (model prog w) hp (storeTaker? none) none := .now
  have hcls : W.Looks (model prog w) hp (classData C) cd := W.looks_clsIn X hcd
  rw [W.osa_eq, refuse_eq]
  refine wpAny_bind (wpAny_bind (I.type.at (wpAny_bind (hmr.at ?_))))
  rw [excTail_pass _ (B.ref _) _ hm]
  refine wpAny_pure (wpAny_bind (I.type.at (wpAny_bind ((W.looks_findIn X ha).at (wpAny_bind (L3.at ?_))))))
  show wpAny _ _ (storeInOwnDict (.ref x) (.ref C) (.str name tk) name v false) _ _ _
  obtain ⟨nm, bs, mro, ns, qn, hd, sn, sb, ab, col, del⟩ := cd
  dsimp only at hh
  subst hh
  unfold storeInOwnDict ownDictForStores
  repeat (first | with_reducible refine store_in_new ?_ ?_ | with_reducible refine wpAny_loadPart_at hx ?_ | with_reducible refine hcls.at ?_ | wp_step)
  · exact ⟨_, #[], _, (Heap.get?_update_ne _ _ _ _ hxs.symm).trans (Heap.get?_push_at rfl rfl), rfl, fun e he => absurd he (by simp), fun _ => rfl⟩
  · intro h' tk' hn' hs
    have hx₁ : (hp.push { cls := .type "dict", data := .dict #[] }).get? x = some { cls := .ref C, data := .fields fv } := Heap.get?_push_of_some _ hx
    refine hq h' tk' hp.objs.size (fun b o hb ho => ?_) (Nat.le_refl _) hxs.symm ?_ hn'
    · exact (hs.2 b (Nat.ne_of_lt (Heap.lt_size ho))).trans ((Heap.get?_update_ne _ _ _ _ hb).trans (Heap.get?_push_of_some _ ho))
    · exact (hs.2 x hxs).trans (Heap.get?_update_self _ hx₁ rfl)
theorem osa_oldB {bmB : List Value} (B : BmOk bmB) {K : W.Frag} {name : Str} {tk : Tok} {v : Value} {x C dx : Addr} {fv : Array Value} {cd : ClassData} {m0 : Str → Option Value} {nl : List Str}
    (X : K.In hp) (hx : hp.get? x = some { cls := .ref C, dict := some dx, data := .fields fv }) (hns : hp.Ns1 dx m0) (hw : Within m0 nl) (hz : nl.length ≤ 1000) (hcd : W.clsIn K C = some cd) (hm : excTail bmB cd.mro = true) (hh : cd.hasDict = true)
    (ha : W.findIn K (.ref C) name = some none)
    (hq : ∀ h' tk', (∀ b o, b ≠ dx → hp.get? b = some o → h'.get? b = some o) → h'.Ns1 dx (fun y => if y = name then some v else m0 y) → R (.ok (.ret .none)) ⟨h', g, d, tk', os⟩) :
    codeAny (model prog w) A (.call (.builtin "object.__setattr__") ⟨[.ref x, .str name tk, v], []⟩) R ⟨hp, g, d, t, os⟩ := by
  obtain ⟨oD, esD, epD, hoD, hdD, _⟩ := hns.count hw
  have I : W.InstAt hp x { cls := .ref C, dict := some dx, data := .fields fv } C (some oD) := ⟨hx, rfl, rfl, hoD⟩
  have SF := F.store_object
  have ne := bm_ne B hm
  have hob : cd.mro.contains (.type "object") = true := (excTail_contains "object" _ hm).trans B.obj
  have sub : W.Looks (model prog w) hp (isInstance (.ref x) (.type "object")) true := I.type.andThen (W.looks_mroIn X (by unfold W.mroIn; rw [hcd, Option.bind_some, if_neg (by rw [ne]; decide), hob]))
  refine codeAny_call_builtin SF.slot.plain SF.entry (@W.check_slot (model prog w) _ _ ⟨hp, g, d, t, os⟩ "object.__setattr__" "object" "__setattr__" (.ref x) [.str name tk, v] [] _ SF.kind SF.split sub (SF.args (.ref x) (.str name tk) v) ?_)
  have hmr : W.Looks (model prog w) hp (mroOf (.ref C)) cd.mro := (W.looks_clsIn X hcd).andThen .now
  have L3 : W.Looks (model prog w) hp (storeTaker? none) none := .now
  have hcls : W.Looks (model prog w) hp (classData C) cd := W.looks_clsIn X hcd
  rw [W.osa_eq, refuse_eq]
  refine wpAny_bind (wpAny_bind (I.type.at (wpAny_bind (hmr.at ?_))))
  rw [excTail_pass _ (B.ref _) _ hm]
  refine wpAny_pure (wpAny_bind (I.type.at (wpAny_bind ((W.looks_findIn X ha).at (wpAny_bind (L3.at ?_))))))
  show wpAny _ _ (storeInOwnDict (.ref x) (.ref C) (.str name tk) name v false) _ _ _
  obtain ⟨nm, bs, mro, ns, qn, hd, sn, sb, ab, col, del⟩ := cd
  dsimp only at hh
  subst hh
  unfold storeInOwnDict ownDictForStores
  repeat (first | with_reducible refine PySem.OEX.store_in_old hns hw hz ?_ | with_reducible refine wpAny_loadPart_at hx ?_ | with_reducible refine hcls.at ?_ | wp_step)
  intro h' tk' hn' hs
  exact hq h' tk' (fun b o hb ho => (hs.2 b hb).trans ho) hn'
end Ky2
end PySem
namespace Ky
open PySem PySem.Spec PyProof.Rows L2
open PySem.Ky2 (BmOk)
open PySem.W (excTail)
abbrev bmLE : List Value := [.type "LookupError", .type "Exception", .type "BaseException", .type "object"]
abbrev bmAE : List Value := [.type "ArithmeticError", .type "Exception", .type "BaseException", .type "object"]
theorem bmOk_LE : BmOk bmLE := ⟨by decide +kernel, F.store_LookupError.passes⟩
theorem bmOk_AE : BmOk bmAE := ⟨by decide +kernel, F.store_ArithmeticError.passes⟩
/-- what the written part says of the class -/
structure OexB (K : PySem.W.Frag) (C : Addr) (bmB : List Value) (newId : String) : Prop where
  cls : ∃ nm q N bs bm sn sub ab col dd k0 k1 k2 k3 k5, K.lookup C = some (excClassObj nm q C N bs bm true sn sub ab col dd k0 k1 k2 k3 k5 newId) ∧ excTail bmB bm = true
  sa : PySem.W.findIn K (.ref C) "__setattr__" = some (some (.builtin "object.__setattr__"))
  exC : PySem.W.subIn K (.ref C) (.type "BaseException") = some true
  tyC : PySem.W.typeIn K (.ref C) = some (.type "type")
  kC : PySem.W.keepIn K (.ref C) = true
/-- the same as a Bool -/
def oexBB (K : PySem.W.Frag) (C : Addr) (bmB : List Value) (newId : String) : Bool :=
  PySem.W.excInitIn K C bmB newId && (PySem.W.hasDictIn K C && (decide (PySem.W.findIn K (.ref C) "__setattr__" = some (some (.builtin "object.__setattr__"))) && (decide (PySem.W.subIn K (.ref C) (.type "BaseException") = some true) && (decide (PySem.W.typeIn K (.ref C) = some (.type "type")) && PySem.W.keepIn K (.ref C)))))
theorem oexB_ok {K : PySem.W.Frag} {C : Addr} {bmB : List Value} {newId : String} (h : oexBB K C bmB newId = true) : OexB K C bmB newId := by
  obtain ⟨h1, h⟩ := Bool.and_eq_true_iff.mp h
  obtain ⟨h2, h⟩ := Bool.and_eq_true_iff.mp h
  obtain ⟨h3, h⟩ := Bool.and_eq_true_iff.mp h
  obtain ⟨h4, h⟩ := Bool.and_eq_true_iff.mp h
  obtain ⟨h5, h6⟩ := Bool.and_eq_true_iff.mp h
  refine ⟨?_, of_decide_eq_true h3, of_decide_eq_true h4, of_decide_eq_true h5, h6⟩
  unfold PySem.W.excInitIn at h1
  split at h1
  · rename_i dd cd sl ho
    split at h1
    · rename_i C' bm k0 k1 k2 k3 n k5 hm hs
      simp only [Bool.and_eq_true, beq_iff_eq, Bool.not_eq_true'] at h1
      obtain ⟨⟨⟨e1, e2⟩, hdel⟩, ht⟩ := h1
      subst e1 e2
      have hd2 : cd.hasDict = true := by
        unfold PySem.W.hasDictIn PySem.W.clsIn at h2
        rw [ho] at h2
        exact h2
      obtain ⟨nm, bs, mro, ns, qn, hd, sn, sub, ab, col, del⟩ := cd
      dsimp only at hm hdel hd2
      subst hm hdel hd2
      have hsl : sl = #[k0, k1, k2, k3, some (.builtin n), k5] := by
        obtain ⟨l⟩ := sl
        simp only at hs
        rw [hs]
      subst hsl
      exact ⟨nm, qn, ns, bs, bm, sn, sub, ab, col, dd, k0, k1, k2, k3, k5, ho, ht⟩
    · cases h1
  · cases h1
section
variable {X : Cx} {pins : List (Addr × Obj)} {σ : St} {H : Hp} {s : Shared} {a C dx : Addr} {f : Str} {y : V} {u : Value} {fs : List (Str × V)} {Q : Unit → Shared → Prop} {E : Value → Shared → Prop} {A : Around} {bmB : List Value} {newId : String}
/-- self.f = y, the first one -/
theorem ostB_new (B : BmOk bmB) (T : OexB X.K C bmB newId) (I : Inv X pins σ H s) (e : H a = some (exo a C none)) (hno : PySem.W.findIn X.K (.ref C) f = some none) (ry : RelV y u)
    (h : ∀ dx s', H dx = none → dx ≠ a → Inv X pins σ (upd (upd H dx (exd dx [(f, y)])) a (exo a C (some dx))) s' → Q () s') : wpAny (model X.prog X.w) A (setAttr (.ref a) f u) Q E s := by
  obtain ⟨nm, q, N, bs, bm, sn, sub, ab, col, dd, k0, k1, k2, k3, k5, hC, hbm⟩ := T.cls
  have hcl : PySem.W.clsIn X.K C = some { name := nm, bases := bs, mro := .ref C :: bm, ns := N, qualname := q, hasDict := true, slotNames := sn, subclasses := sub, abstract := ab, collection := col, hasDel := false } := by unfold PySem.W.clsIn; rw [hC] <;> rfl
  obtain ⟨t1, ho⟩ := exo_at I.hok e
  obtain ⟨hp, g, d, t, os⟩ := s
  refine PySem.W.set_plain I.kIn (ox := { cls := .ref C, dict := none, data := .fields #[.ref t1, .none, .none, .none, .bool false, .none] }) (od := none) ⟨ho, rfl, rfl, trivial⟩ T.sa ?_
  refine PySem.Ky2.exc_osaB B I.kIn ho hcl (show excTail bmB (.ref C :: bm) = true from hbm) rfl hno (fun h' tk' dx k dn dne hx hn => ?_)
  have hnd : H dx = none := I.hok.fresh dn
  have nd : ∀ {b : Addr} {o : Obj}, hp.get? b = some o → b ≠ dx := fun {b o} q => Nat.ne_of_lt (Nat.lt_of_lt_of_le (Heap.lt_size q) dn)
  have na : ∀ {b : Addr}, H b = none → b ≠ a := fun {b} n z => by
    rw [z, e] at n
    cases n
  have Un1 : Un X.fs [] H (upd (upd H dx (exd dx [(f, y)])) a (exo a C (some dx))) hp h' := {
    keep := fun b o q n _ _ => k b o (na n) q
    slot := fun b o q n _ _ => ⟨o.slots, k b o (na n) q⟩
    free := fun b o q n _ => by rw [upd_ne (na n), upd_ne (nd q)]; exact n
    there := fun b o q _ => by
      by_cases hb : b = a
      · exact ⟨_, by rw [hb]; exact hx⟩
      · exact ⟨o, k b o hb q⟩
    tups := fun b xs q => by rw [upd_ne (at_ne e q exo_tup), upd_ne (ne_of_none q hnd)]; exact q
    frzs := fun b o v q => by rw [upd_ne (at_ne e q exo_frz), upd_ne (ne_of_none q hnd)]; exact q
    tbls := fun b ps q => ⟨#[], by rw [upd_ne (at_ne e q exo_tbl), upd_ne (ne_of_none q hnd), q]; simp⟩ }
  refine h dx _ hnd dne (I.un (t' := tk') Un1 fun b o q => ?_)
  by_cases hb : b = a
  · subst hb
    rw [upd_same] at q
    cases q
    exact exo_ok hx
  · rw [upd_ne hb] at q
    by_cases hd : b = dx
    · subst hd
      rw [upd_same] at q
      cases q
      exact exd_ok hn (relO_put (fs := []) ry fun g => True.intro)
    · rw [upd_ne hd] at q
      exact (I.hok b o q).stay (fun c v hc z => k c v (by
          rcases hc with hc | hc
          · rw [hc]
            exact hb
          · exact at_ne e hc exo_own) z)
        (fun c hc => by rw [upd_ne (at_ne e hc exo_own), upd_ne (ne_of_none hc hnd)]; exact hc) (fun c xs hc => by rw [upd_ne (at_ne e hc exo_tup), upd_ne (ne_of_none hc hnd)]; exact hc)
/-- self.f = y, a further one -/
theorem ostB_old (B : BmOk bmB) (T : OexB X.K C bmB newId) (I : Inv X pins σ H s) (e : H a = some (exo a C (some dx))) (ed : H dx = some (exd dx fs)) (hl : fs.length ≤ 900) (hno : PySem.W.findIn X.K (.ref C) f = some none) (ry : RelV y u)
    (h : ∀ s', Inv X pins σ (upd H dx (exd dx ((f, y) :: fs))) s' → Q () s') : wpAny (model X.prog X.w) A (setAttr (.ref a) f u) Q E s := by
  obtain ⟨nm, q, N, bs, bm, sn, sub, ab, col, dd, k0, k1, k2, k3, k5, hC, hbm⟩ := T.cls
  have hcl : PySem.W.clsIn X.K C = some { name := nm, bases := bs, mro := .ref C :: bm, ns := N, qualname := q, hasDict := true, slotNames := sn, subclasses := sub, abstract := ab, collection := col, hasDel := false } := by unfold PySem.W.clsIn; rw [hC] <;> rfl
  obtain ⟨t1, ho⟩ := exo_at I.hok e
  obtain ⟨mA, hns, rel⟩ := exd_at I.hok ed
  have hw := within_of rel
  obtain ⟨hp, g, d, t, os⟩ := s
  obtain ⟨oD, _, _, hoD, _, _⟩ := hns.count hw
  refine PySem.W.set_plain I.kIn (ox := { cls := .ref C, dict := some dx, data := .fields #[.ref t1, .none, .none, .none, .bool false, .none] }) (od := some oD) ⟨ho, rfl, rfl, hoD⟩ T.sa ?_
  refine PySem.Ky2.osa_oldB B I.kIn ho hns hw (by rw [List.length_map]; omega) hcl (show excTail bmB (.ref C :: bm) = true from hbm) rfl hno (fun h' tk' k hn => ?_)
  have hd : ∃ o, h'.get? dx = some o := by
    obtain ⟨o, _, _, e', _⟩ := hn
    exact ⟨o, e'⟩
  exact h _ (I.write (t' := tk') (x := dx) (e := dx) (o := exd dx ((f, y) :: fs)) (by rw [ed]; exact True.intro) (.inl rfl) k hd (exd_ok hn (relO_put ry rel)))
end
/-- self.f = e -/
def tOstB (K : PySem.W.Frag) (bmB : List Value) (newId : String) (f : Str) (to te : TE) : TS := fun D σ H => te σ H fun y H1 => to σ H1 fun x H2 => ∃ a C : Addr, x = .ref a ∧ OexB K C bmB newId ∧ PySem.W.findIn K (.ref C) f = some none ∧
  ((H2 a = some (exo a C none) ∧ ∀ dx, H2 dx = none → dx ≠ a → D.nx σ (upd (upd H2 dx (exd dx [(f, y)])) a (exo a C (some dx)))) ∨
    ∃ (dx : Addr) (fs : List (Str × V)), H2 a = some (exo a C (some dx)) ∧ H2 dx = some (exd dx fs) ∧ fs.length ≤ 900 ∧ D.nx σ (upd H2 dx (exd dx ((f, y) :: fs))))
section
variable {X : Cx} {o e : Expr} {es : List Expr} {to te : TE} {ta : TA} {f : Str} {p p' p1 p2 pos : Pos} {bmB : List Value} {newId : String}
theorem ps_ostB (B : BmOk bmB) (ho : PE X o to) (he : PE X e te) (hs : swapsWith e (some (.Attribute o f p')) pos.line X.env = pure false := by rfl) : PS X (.Assign [.Attribute o f p'] e pos) (tOstB X.K bmB newId f to te) := by
  refine ⟨fun pins s σ H D I h => ?_⟩
  refine plainObj_wpAny_Assign_Attribute (thn (he.run pins s σ H _ I h) fun v s1 ⟨y, H1, I1, r1, q1⟩ => thn (ho.run pins s1 σ H1 _ I1 q1) fun u s2 ⟨x, H2, I2, r2, a, C, ex, T, hno, q⟩ => ?_) hs
  subst ex
  obtain rfl : u = Value.ref a := r2
  rcases q with ⟨ea, q⟩ | ⟨dx, fs, ea, ed, hl, q⟩
  · exact ostB_new B T I2 ea hno r1 fun dx s' n ne J => ⟨σ, _, J, q dx n ne⟩
  · exact ostB_old B T I2 ea ed hl hno r1 fun s' J => ⟨σ, _, J, q⟩
/-- C(e, ..), C an own exception class with its own __init__ over the built-in B -/
theorem pmk_oexB {Bn initId : String} {CX : CXT} {x : Str} {C fI : Addr} {k : Nat} {fd : FuncData} {ps : List Str} {sp : Sp} {ds : List Value} {dvs : List V} (FB : ExcBaseFacts Bn newId initId bmB) (T : OexB X.K C bmB newId) (iC : PySem.W.findIn X.K (.ref C) "__init__" = some (some (.ref fI))) (tI : PySem.W.typeIn X.K (.ref fI) = some (.type "function"))
    (F1 : FnOk X.prog X.w X.K X.mg X.base CX k fI fd ps sp) (hr : Room (k + 1) X.A) (hb : Binds X.K fd ps ds) (hd : Vals dvs ds) (hx : Passes CX X (fun _ _ _ => False)) (hg : Gl X x) (hm : X.mg x = some (.ref C)) (ha : PA X (e :: es) ta)
    (hdb : (x == ("__debug__" : Str)) = false := by decide) (he : starEach (e :: es) X.env = (false, eval e X.env) :: starEach es X.env := by rfl) (hpl : (backTo pos (starEach es X.env)).any (·.1) = false := by rfl) :
    PMk X (.Call (.Name x p) (e :: es) [] pos) (tMkO C sp dvs ta) := by
  intro pins s σ H Q I h
  obtain ⟨nm, q, N, bs, bm, sn, sub, ab, col, dd, k0, k1, k2, k3, k5, hC, hbm⟩ := T.cls
  refine wpAny_Call_Name_kw (ld_glob I hg hm ?_ hdb)
  refine PySem.W.callWith_K (h₀ := X.base) I.ok.mod.kin T.kC (thn (ha.run pos pins s σ H _ I h) fun us s1 ⟨vs, H1, I1, r1, hz, q1⟩ => ⟨I1.kIn, ?_⟩) he hpl
  show wpAny _ _ (call (.ref C) us) _ _ _
  obtain ⟨hp, g, dr, tk, os⟩ := s1
  have hsz : hp.objs.size ≤ hp.objs.size + 1 := Nat.le_succ _
  have hn : H1 (hp.objs.size + 1) = none := I1.hok.fresh hsz
  have hq := q1 (hp.objs.size + 1) hn
  have kk : ∀ b o, hp.get? b = some o → ((hp.push (PySem.W.kdv_tup us)).push (PySem.HandSPX.excO C hp.objs.size)).get? b = some o := fun b o e => Heap.get?_push_of_some _ (Heap.get?_push_of_some _ e)
  have hget : ((hp.push (PySem.W.kdv_tup us)).push (PySem.HandSPX.excO C hp.objs.size)).get? (hp.objs.size + 1) = some (PySem.HandSPX.excO C hp.objs.size) := by heap_get
  have I2 : Inv X pins σ (upd H1 (hp.objs.size + 1) (exo (hp.objs.size + 1) C none)) ⟨(hp.push (PySem.W.kdv_tup us)).push (PySem.HandSPX.excO C hp.objs.size), g, dr, tk, os⟩ :=
    I1.laid (t' := tk) (a := hp.objs.size + 1) (o := exo (hp.objs.size + 1) C none) (h' := (hp.push (PySem.W.kdv_tup us)).push (PySem.HandSPX.excO C hp.objs.size)) kk hsz (exo_ok hget)
  have r2 : Vals (V.ref (hp.objs.size + 1) :: (vs ++ dvs)) (Value.ref (hp.objs.size + 1) :: (us ++ ds)) := .cons rfl (r1.append hd)
  have hl : (Value.ref (hp.objs.size + 1) :: us ++ ds).length = ps.length := by
    have e := r2.length
    rw [F1.len _ _ _ _ hq] at e
    exact e.symm
  have hus : us.length ≤ sizeLine := by
    rw [← Paired.length r1, sizeLine_eq]
    omega
  refine wpAny_call (PySem.HandSPX.call_own FB (fun Y => PySem.W.excTail_contains Y bm hbm) (I1.kIn _ _ hC) (PySem.W.looks_findIn I1.kIn iC) (fun self => PySem.W.bind_fn I1.kIn self tI) hus
    (codeAny_mono (F1.run _ X.stack _ _ ⟨Value.ref (hp.objs.size + 1) :: us, []⟩ (Value.ref (hp.objs.size + 1) :: (us ++ ds)) _ _ (fun _ _ _ => False) (hr.make C us []) (I2.env0.make C us []) (hb _ (Value.ref (hp.objs.size + 1) :: us) I2.kIn hl) r2 hq) fun r s' hq' => ?_))
  cases r with
  | error er => exact hx pins σ _ _ er s' I2 hq'
  | ok fl =>
    cases fl with
    | ret u =>
      obtain ⟨v, H2, os2, bare2, un2, hok2, rv, ev, d, fs, ea, ed, hd1, q2⟩ := hq'
      subst ev
      obtain ⟨h2, g2, d2, t2, os'⟩ := s'
      exact ⟨rv, mk_end (raises_own T.exC T.tyC) I1 hsz kk un2 hok2 os2 bare2 ea ed hd1 q2⟩
    | next => exact False.elim hq'
    | brk => exact False.elim hq'
    | cont => exact False.elim hq'
/-- X(), X an own exception class without own __init__ -/
theorem pmk_own0 {C : Addr} {B newId initId : String} {x : Str} (F : ExcBaseFacts B newId initId bmB) (q : PySem.W.excIn X.K C bmB newId = true) (gC : X.mg x = some (.ref C))
    (kC : PySem.W.keepIn X.K (.ref C) = true) (r : Raises X (.ref C)) (hg : Gl X x) (hdb : (x == ("__debug__" : Str)) = false := by decide) :
    PMk X (.Call (.Name x p) [] [] pos) (fun σ H Q => Q (.ref C) none H) := by
  intro pins s σ H Q I h
  refine wpAny_Call_Name_kw (ld_glob I hg gC ?_ hdb)
  refine PySem.W.callWith_K0 I.kIn kC ?_
  show wpAny _ _ (call (.ref C) []) _ _ _
  obtain ⟨bm, N, nm, qn, bs, hdct, sn, sub, ab, col, dd, k0, k1, k2, k3, k5, mN, hC, hN, hni, T⟩ := exc_obj I.kIn q
  refine wpAny_call_exc_subT F T hC hN hni (fun h' e hm => ?_) (Nat.zero_le _)
  exact mk_of I hm r h (I.hok.gone hm.new)
end
end Ky
end

section
set_option Elab.async false
set_option linter.all false
set_option maxRecDepth 100000
set_option maxHeartbeats 2000000
namespace Ky
open PySem PySem.Spec PyProof.Rows L2 LamX
/-! ### the head: what the top's frame holds -/
def loose0 : List Str := ["_wall", "NotRight", "InvalidText", "InvalidName", "InvalidIndex", "InvalidClaim", "NotATable", "InvalidRows", "InvalidLoad", "NotKnown", "UnknownName", "InUse", "NothingToUndo", "NotPossible", "NotSingle", "OtherSize", "TooWide", "Broken", "LETTERS", "FIGURES"]
def loose1 : List Str := ["MOST_LETTERS", "MOST_FIGURES", "NONE", "ONE", "is_integer", "is_between", "is_name", "number_in", "signed_in", "common", "ratio", "whole", "plus", "minus", "times", "over", "joined", "is_less", "lesser", "greater"]
def loose2 : List Str := ["is_ratio", "rank_of", "sets_of", "determinant", "cut", "reduced", "cleared", "solved", "nothing_of", "wholes", "MOST_ROWS", "MOST_NUMBER", "MOST_BOXED", "PARTED", "rows_fault", "Table", "rows_in", "check_table", "load_fault", "check_load"]
def loose3 : List Str := ["check_place", "first_bad", "clash_in", "bad_lot", "check_single", "signs_of", "mixed", "first_between", "row_above", "check_between", "bad_between", "maps_of", "sides_of", "placed", "load_at", "is_within", "corners_in", "ends_of", "check_box", "check_boxed"]
def loose4 : List Str := ["range_of", "SIZES", "NAMED", "is_bound", "is_claim", "names_in", "single_fault", "between_fault", "nought_fault", "fault_of", "Shelf", "Desk", "_law_well", "_law_take", "_law_one", "_law_names", "_law_ended", "_law_sheets", "_law_seen", "_law_stand"]
def loose5 : List Str := ["_law_done", "_law_right"]
def loose : List Str := loose0 ++ loose1 ++ loose2 ++ loose3 ++ loose4 ++ loose5


/-! the objects that are looked at -/
def keyS : Value → Str
  | .str x _ => x
  | _ => Str.empty
def entsOf (g : Addr → Option Obj) (a : Addr) : List DictEntry := match g a with
  | some o => (match o.data with
    | .dict es _ => es.toList
    | _ => [])
  | none => []
def pickY (ns : List Str) (es : List DictEntry) : List Addr := es.flatMap fun e => if ns.contains (keyS e.key) then He.refV e.val else []
def nsOfY (g : Addr → Option Obj) (a : Addr) : List Addr := match g a with
  | some o => (match o.data with
    | .cls cd => [cd.ns]
    | _ => [])
  | none => []
def codeOfY (g : Addr → Option Obj) (a : Addr) : List Addr := match g a with
  | some o => (match o.data with
    | .func fd => He.refV fd.code
    | _ => [])
  | none => []
def recOfY (g : Addr → Option Obj) (a : Addr) : List Addr := match g a with
  | some o => (match o.data with
    | .fields vs => vs.toList.flatMap He.refV
    | _ => [])
  | none => []
def fnsY1 : List Str := ["is_integer", "is_between", "is_name", "number_in", "signed_in", "rank_of", "sets_of", "determinant", "cut", "rows_fault", "rows_in", "check_table", "first_bad", "bad_lot"]
def fnsY2 : List Str := ["is_claim", "names_in", "single_fault", "fault_of", "_law_well", "_law_take", "_law_one", "_law_names", "_law_ended", "_law_sheets", "_law_seen", "_law_stand", "_law_done", "_law_right", "law"]
def clsY : List Str := ["Table", "Shelf", "Desk", "Broken", "UnknownName", "InUse", "NothingToUndo", "NotKnown", "NotPossible"]
def dicY : List Str := ["SIZES", "NAMED"]
def mtsY : List Str := ["__init__", "read", "text", "names", "claims", "changes", "__contains__", "check_known", "thing", "put", "drop", "claim", "lift", "undo", "check_claims"]
def asY (g : Addr → Option Obj) : List Addr :=
  (fun es => (fun fs cs ds => (fun ns => (fun ms => (fun rs => mainGlobals :: PySem.cStatics :: (fs ++ (cs ++ (ds ++ (ns ++ (ms ++ (rs ++ (fs ++ (ms ++ rs)).flatMap (codeOfY g))))))))
    (ms.flatMap (recOfY g))) (ns.flatMap fun n => pickY mtsY (entsOf g n))) (cs.flatMap (nsOfY g))) (pickY (fnsY1 ++ fnsY2) es) (pickY clsY es) (pickY dicY es)) (entsOf g mainGlobals)
/-! defs, by their addresses -/
structure FY where
  ad : PySem.W.Frag → Addr
  name : Str
  qual : Str
  st : Stmt
def fnObsA (K : PySem.W.Frag) (a : Addr) : He.FnV := match K.lookup a with
  | some ⟨_, _, .func fd, _⟩ => some (fd.name, fd.qualname, fd.params, fd.body, fd.scope, fd.globals, fd.closure, fd.defaults, fd.builtins)
  | _ => none
def FY.val (d : FY) : He.FnV := some (d.name, d.qual, defArgs d.st, .stmts (defBody d.st), defScope d.st, mainGlobals, [], .none, builtinsNs)
def FY.ok (K : PySem.W.Frag) (d : FY) : Bool := PySem.W.keepIn K (.ref (d.ad K)) && (match K.lookup (d.ad K) with
  | some ⟨_, _, .func fd, _⟩ => PySem.W.codeIn K fd.code d.qual
  | _ => false)
theorem FY.fun_ {K : PySem.W.Frag} {d : FY} (e : fnObsA K (d.ad K) = d.val) (c : d.ok K = true) : ∃ fd, L2.Fun K d.name d.qual d.st (d.ad K) fd := by
  obtain ⟨kp, c2⟩ := He.ba c
  unfold fnObsA at e
  cases q : K.lookup (d.ad K) with
  | none =>
    rw [q] at c2
    cases c2
  | some o =>
    obtain ⟨oc, od, dt, osl⟩ := o
    rw [q] at c2 e
    cases dt with
    | func fd =>
      obtain ⟨n1, n2, n3, n4, n5, n6, n7, n8, n9, n10, n11, n12, n13, n14, n15⟩ := fd
      have e2 : (some (n1, n2, n3, n4, n5, n6, n7, n8, n15) : He.FnV) = some (d.name, d.qual, defArgs d.st, .stmts (defBody d.st), defScope d.st, mainGlobals, [], .none, builtinsNs) := e
      simp only [Option.some.injEq, Prod.mk.injEq] at e2
      obtain ⟨h1, h2, h3, h4, h5, h6, h7, h8, h9⟩ := e2
      subst h1 h2 h3 h4 h5 h6 h7 h8 h9
      exact ⟨_, ⟨oc, od, n9, n10, n11, n12, n13, n14, osl, rfl, q, c2⟩, kp⟩
    | _ => cases c2
end Ky
end

section
set_option Elab.async false
set_option linter.all false
set_option maxRecDepth 100000
set_option maxHeartbeats 2000000
namespace Ky
open PySem PySem.Spec PyProof.Rows L2 LamX
/-! an own hook over chosen objects -/
abbrev AlY : Type := Bool × (List He.FnV × List (Option (List (Option (Str × Int)))))
def obsY (fns : List FY) (ts : List He.Tab) (tf : List He.Defn) (ex : PySem.W.Frag → Bool) (g : Addr → Option Obj) : AlY :=
  (fun K => (ex K && ((fns.all fun d => d.ok K) && He.tabsB g tf K), (fns.map fun d => fnObsA K (d.ad K), ts.map fun t => He.dicW K (t.1 K)))) (He.frT g (asY g))
def valYY (fns : List FY) (ts : List He.Tab) (w : World) : AlY := (true, (fns.map FY.val, ts.map fun t => some (He.keysIn w.params t.2)))
structure SaysY (fns : List FY) (ts : List He.Tab) (tf : List He.Defn) (ex : PySem.W.Frag → Bool) (w : World) (h : Heap) (K : PySem.W.Frag) : Prop where
  more : ex K = true
  fn : ∀ d ∈ fns, fnObsA K (d.ad K) = d.val ∧ d.ok K = true
  tab : ∀ t ∈ ts, ∃ es n, KDict K w (t.1 K) es n
  hd : ∀ p ∈ tf, PySem.W.codeHdIn K (He.cT K p).1 (He.cT K p).2 = true
  out : ∀ p ∈ tf, K.lookup (He.cT K p).2 = none
  empty : ∀ p ∈ tf, h.get? (He.cT K p).2 = some { cls := .none, data := .fields #[] }
theorem map_eq_mem {α β : Type} {f g : α → β} : ∀ {l : List α}, l.map f = l.map g → ∀ a ∈ l, f a = g a
  | [], _, _, h => by cases h
  | a :: l, e, b, h => by
    obtain ⟨e1, e2⟩ := List.cons.inj e
    rcases List.mem_cons.mp h with h | h
    · rw [h]; exact e1
    · exact map_eq_mem e2 b h
theorem saysY_of {fns : List FY} {ts : List He.Tab} {tf : List He.Defn} {ex : PySem.W.Frag → Bool} {w : World} {h : Heap} (e : obsY fns ts tf ex h.get? = valYY fns ts w) : SaysY fns ts tf ex w h (He.frT h.get? (asY h.get?)) := by
  generalize hK : He.frT h.get? (asY h.get?) = K at *
  have e0 : ((ex K && ((fns.all fun d => d.ok K) && He.tabsB h.get? tf K), (fns.map fun d => fnObsA K (d.ad K), ts.map fun t => He.dicW K (t.1 K))) : AlY) = valYY fns ts w := by
    rw [← hK]
    exact e
  have e1 : (ex K && ((fns.all fun d => d.ok K) && He.tabsB h.get? tf K)) = true := congrArg (fun z : AlY => z.1) e0
  have e2 : (fns.map fun d => fnObsA K (d.ad K)) = fns.map FY.val := congrArg (fun z : AlY => z.2.1) e0
  have e3 : (ts.map fun t => He.dicW K (t.1 K)) = ts.map fun t => some (He.keysIn w.params t.2) := congrArg (fun z : AlY => z.2.2) e0
  obtain ⟨h1, h2⟩ := He.ba e1
  obtain ⟨h3, h4⟩ := He.ba h2
  have key : ∀ p ∈ tf, PySem.W.codeHdIn K (He.cT K p).1 (He.cT K p).2 = true ∧ ∃ o, h.get? (He.cT K p).2 = some o ∧ He.emptyTab o = true := fun p hp => by
    obtain ⟨h5, h6⟩ := He.ba (List.all_eq_true.mp h4 p hp)
    refine ⟨h5, ?_⟩
    cases q : h.get? (He.cT K p).2 with
    | none =>
      rw [q] at h6
      cases h6
    | some o =>
      rw [q] at h6
      exact ⟨o, rfl, h6⟩
  refine ⟨h1, fun d hd => ⟨map_eq_mem e2 d hd, List.all_eq_true.mp h3 d hd⟩, fun t ht => He.dicW_ok (map_eq_mem e3 t ht), fun p hp => (key p hp).1, fun p hp => ?_, fun p hp => ?_⟩
  · obtain ⟨_, o, q, z⟩ := key p hp
    rw [← hK] at q ⊢
    exact He.frT_none q z
  · obtain ⟨_, o, q, z⟩ := key p hp
    rw [q, He.emptyTab_eq z]
def hookY (fns : List FY) (ts : List He.Tab) (tf : List He.Defn) (ex : PySem.W.Frag → Bool) : PySem.W.Hook where
  α := AlY
  obs := fun s => obsY fns ts tf ex s.heap.get?
  val := fun w => valYY fns ts w
  says := fun w h => ∃ K : PySem.W.Frag, K.In h ∧ SaysY fns ts tf ex w h K
  of := fun _ _ e => ⟨_, He.frT_in, saysY_of e⟩
  keeps := fun _ _ _ ⟨K, hK, c⟩ k => ⟨K, PySem.W.Frag.In.keeps hK k, ⟨c.more, c.fn, c.tab, c.hd, c.out, fun p hp => k _ _ (c.empty p hp)⟩⟩
theorem obsY_eq {fns : List FY} {ts : List He.Tab} {tf : List He.Defn} {ex : PySem.W.Frag → Bool} {g : Addr → Option Obj} {s : Shared} (h : ∀ a, g a = s.heap.get? a) : obsY fns ts tf ex g = (hookY fns ts tf ex).obs s := by
  have e : g = s.heap.get? := funext h
  rw [e] <;> rfl
/-! the facts -/
def prA (K : PySem.W.Frag) (x f : Str) : Addr := match PySem.W.recIn K (He.ma K (He.ga K x) f) "property" with
  | some (.ref g :: _) => g
  | _ => 0
def cmA (K : PySem.W.Frag) (x f : Str) : Addr := match PySem.W.recIn K (He.ma K (He.ga K x) f) "classmethod" with
  | some (.ref g :: _) => g
  | _ => 0
/-- C.f is a property -/
def propB (K : PySem.W.Frag) (x f : Str) : Bool := decide (PySem.W.findIn K (.ref (He.ga K x)) f = some (some (.ref (He.ma K (He.ga K x) f)))) && (decide (PySem.W.specialIn K (.ref (He.ma K (He.ga K x) f)) "__get__" = some (some (.builtin "property.__get__"))) &&
  (decide (PySem.W.takesIn K (.ref (He.ma K (He.ga K x) f)) = some true) && (match PySem.W.recIn K (He.ma K (He.ga K x) f) "property" with
    | some (.ref _ :: _) => true
    | _ => false)))
theorem propB_ok {K : PySem.W.Frag} {x f : Str} (h : propB K x f = true) : PropOf K (He.ga K x) f (He.ma K (He.ga K x) f) (prA K x f) := by
  obtain ⟨h1, h⟩ := He.ba h
  obtain ⟨h2, h⟩ := He.ba h
  obtain ⟨h3, h4⟩ := He.ba h
  refine ⟨of_decide_eq_true h1, of_decide_eq_true h2, of_decide_eq_true h3, ?_⟩
  unfold prA
  cases e : PySem.W.recIn K (He.ma K (He.ga K x) f) "property" with
  | none => rw [e] at h4; cases h4
  | some l =>
    rw [e] at h4
    cases l with
    | nil => cases h4
    | cons v r =>
      cases v with
      | ref g => exact ⟨r, rfl⟩
      | _ => cases h4
def cfB (r : Option PySem.W.CFound) (p c : Addr) : Bool := match r with
  | some (.get (.builtin i) (.ref q) .none (.ref d)) => decide (i = "classmethod.__get__") && (decide (q = p) && decide (d = c))
  | _ => false
theorem cfB_ok {r : Option PySem.W.CFound} {p c : Addr} (h : cfB r p c = true) : r = some (.get (.builtin "classmethod.__get__") (.ref p) .none (.ref c)) := by
  unfold cfB at h
  split at h
  · obtain ⟨h1, h⟩ := He.ba h
    obtain ⟨h2, h3⟩ := He.ba h
    rw [of_decide_eq_true h1, of_decide_eq_true h2, of_decide_eq_true h3]
  · cases h
/-- C.m is a classmethod -/
def cmetB (K : PySem.W.Frag) (x m : Str) : Bool := PySem.W.readsIn K (He.ga K x) (.type "type") && (decide (PySem.W.specialIn K (.ref (He.ga K x)) "__getattribute__" = some (some (.builtin "type.__getattribute__"))) &&
  (cfB (PySem.W.findCls K (.ref (He.ga K x)) (.type "type") m) (He.ma K (He.ga K x) m) (He.ga K x) && (PySem.W.fnIn K (cmA K x m) && (match PySem.W.recIn K (He.ma K (He.ga K x) m) "classmethod" with
    | some (.ref _ :: _) => true
    | _ => false))))
theorem cmetB_ok {K : PySem.W.Frag} {x m : Str} (h : cmetB K x m = true) : ClX.CRead K (He.ga K x) (.type "type") ∧ ClX.CMet K (He.ga K x) (.type "type") m (He.ma K (He.ga K x) m) (cmA K x m) := by
  obtain ⟨h1, h⟩ := He.ba h
  obtain ⟨h2, h⟩ := He.ba h
  obtain ⟨h3, h⟩ := He.ba h
  obtain ⟨h4, h5⟩ := He.ba h
  refine ⟨⟨h1, of_decide_eq_true h2⟩, cfB_ok h3, ?_, h4⟩
  unfold cmA
  cases e : PySem.W.recIn K (He.ma K (He.ga K x) m) "classmethod" with
  | none => rw [e] at h5; cases h5
  | some l =>
    rw [e] at h5
    cases l with
    | nil => cases h5
    | cons v r =>
      cases v with
      | ref g => exact ⟨r, rfl⟩
      | _ => cases h5
end Ky
end

section
set_option Elab.async false
set_option linter.all false
set_option maxRecDepth 100000
set_option maxHeartbeats 0
namespace Ky
open PySem PySem.Spec PyProof.Rows L2 LamX
def fysY0 : List FY := [⟨fun K => He.ga K "is_integer", "is_integer", "is_integer", sIsInt⟩, ⟨fun K => He.ga K "is_between", "is_between", "is_between", sBetween⟩, ⟨fun K => He.ga K "is_name", "is_name", "is_name", sIsName⟩, ⟨fun K => He.ga K "number_in", "number_in", "number_in", sNumIn⟩, ⟨fun K => He.ga K "signed_in", "signed_in", "signed_in", sSigned⟩, ⟨fun K => He.ga K "rank_of", "rank_of", "rank_of", sRank⟩, ⟨fun K => He.ga K "sets_of", "sets_of", "sets_of", sSets⟩, ⟨fun K => He.ga K "determinant", "determinant", "determinant", sDet⟩, ⟨fun K => He.ga K "cut", "cut", "cut", sCut⟩, ⟨fun K => He.ga K "rows_fault", "rows_fault", "rows_fault", sFault⟩, ⟨fun K => He.ga K "rows_in", "rows_in", "rows_in", sRowsIn⟩, ⟨fun K => He.ga K "check_table", "check_table", "check_table", sCheckT⟩]
def fysY1 : List FY := [⟨fun K => He.ga K "first_bad", "first_bad", "first_bad", sFirst⟩, ⟨fun K => He.ga K "bad_lot", "bad_lot", "bad_lot", sBadLot⟩, ⟨fun K => He.ga K "is_claim", "is_claim", "is_claim", sIsClaim⟩, ⟨fun K => He.ga K "names_in", "names_in", "names_in", sNamesIn⟩, ⟨fun K => He.ga K "single_fault", "single_fault", "single_fault", sSingle⟩, ⟨fun K => He.ga K "fault_of", "fault_of", "fault_of", sFaultOf⟩, ⟨fun K => He.ga K "_law_well", "_law_well", "_law_well", sWell⟩, ⟨fun K => He.ga K "_law_take", "_law_take", "_law_take", Ky.sTake⟩, ⟨fun K => He.ga K "_law_one", "_law_one", "_law_one", sOne⟩, ⟨fun K => He.ga K "_law_names", "_law_names", "_law_names", sNm⟩, ⟨fun K => He.ga K "_law_ended", "_law_ended", "_law_ended", sEnded⟩, ⟨fun K => He.ga K "_law_sheets", "_law_sheets", "_law_sheets", sSheets⟩]
def fysY2 : List FY := [⟨fun K => He.ga K "_law_seen", "_law_seen", "_law_seen", sSeen⟩, ⟨fun K => He.ga K "_law_stand", "_law_stand", "_law_stand", sStand⟩, ⟨fun K => He.ga K "_law_done", "_law_done", "_law_done", sDone⟩, ⟨fun K => He.ga K "_law_right", "_law_right", "_law_right", sRight⟩, ⟨fun K => He.ga K "law", "law", "law", sLaw⟩, ⟨fun K => He.ma K (He.ga K "Table") "__init__", "__init__", "Table.__init__", sTabInit⟩, ⟨fun K => cmA K "Table" "read", "read", "Table.read", sRead⟩, ⟨fun K => prA K "Table" "text", "text", "Table.text", sText⟩, ⟨fun K => He.ma K (He.ga K "Shelf") "__init__", "__init__", "Shelf.__init__", sShInit⟩, ⟨fun K => He.ma K (He.ga K "Broken") "__init__", "__init__", "Broken.__init__", sBkInit⟩, ⟨fun K => He.ma K (He.ga K "UnknownName") "__init__", "__init__", "UnknownName.__init__", sUnInit⟩, ⟨fun K => He.ma K (He.ga K "InUse") "__init__", "__init__", "InUse.__init__", sIuInit⟩]
def fysY3 : List FY := [⟨fun K => He.ma K (He.ga K "Desk") "__init__", "__init__", "Desk.__init__", sDkInit⟩, ⟨fun K => He.ma K (He.ga K "Desk") "check_claims", "check_claims", "Desk.check_claims", sChk⟩, ⟨fun K => prA K "Desk" "names", "names", "Desk.names", sNames⟩, ⟨fun K => prA K "Desk" "claims", "claims", "Desk.claims", sClaims⟩, ⟨fun K => prA K "Desk" "changes", "changes", "Desk.changes", sChanges⟩, ⟨fun K => He.ma K (He.ga K "Desk") "__contains__", "__contains__", "Desk.__contains__", sCont⟩, ⟨fun K => He.ma K (He.ga K "Desk") "check_known", "check_known", "Desk.check_known", sKnown⟩, ⟨fun K => He.ma K (He.ga K "Desk") "thing", "thing", "Desk.thing", sThing⟩, ⟨fun K => He.ma K (He.ga K "Desk") "put", "put", "Desk.put", sPut⟩, ⟨fun K => He.ma K (He.ga K "Desk") "drop", "drop", "Desk.drop", sDrop⟩, ⟨fun K => He.ma K (He.ga K "Desk") "claim", "claim", "Desk.claim", sClaim⟩, ⟨fun K => He.ma K (He.ga K "Desk") "lift", "lift", "Desk.lift", sLift⟩]
def fysY4 : List FY := [⟨fun K => He.ma K (He.ga K "Desk") "undo", "undo", "Desk.undo", sUndo⟩]
def fysY : List FY := fysY0 ++ fysY1 ++ fysY2 ++ fysY3 ++ fysY4
def faY0 : List He.Fa := [.glo "is_integer", .glo "is_between", .glo "is_name", .glo "number_in", .glo "signed_in", .glo "rank_of", .glo "sets_of", .glo "determinant", .glo "cut", .glo "rows_fault", .glo "rows_in", .glo "check_table"]
def faY1 : List He.Fa := [.glo "first_bad", .glo "bad_lot", .glo "is_claim", .glo "names_in", .glo "single_fault", .glo "fault_of", .glo "_law_well", .glo "_law_take", .glo "_law_one", .glo "_law_names", .glo "_law_ended", .glo "_law_sheets"]
def faY2 : List He.Fa := [.glo "_law_seen", .glo "_law_stand", .glo "_law_done", .glo "_law_right", .glo "law", .glo "Table", .glo "Shelf", .glo "Desk", .glo "Broken", .glo "UnknownName", .glo "InUse", .glo "NothingToUndo"]
def faY3 : List He.Fa := [.glo "SIZES", .glo "NAMED", .free "isinstance", .free "int", .free "bool", .free "str", .free "len", .free "all", .free "tuple", .free "list", .free "dict", .free "range"]
def faY4 : List He.Fa := [.free "sorted", .free "enumerate", .free "divmod", .free "abs", .free "max", .free "min", .str "LETTERS" sLetters, .str "FIGURES" sFigures, .int "MOST_LETTERS" 8, .int "MOST_FIGURES" 60, .int "MOST_ROWS" 5, .int "MOST_NUMBER" (10 ^ 20)]
def faY5 : List He.Fa := [.str "PARTED" sParted, .cls "Table", .cls "Shelf", .cls "Desk", .noat "Table" "rows", .noat "Shelf" "pairs", .noat "Shelf" "pledges", .noat "Shelf" "before", .noat "Shelf" "depth", .noat "Desk" "shelf", .meth "Desk" "check_claims", .meth "Desk" "__contains__"]
def faY6 : List He.Fa := [.meth "Desk" "check_known", .meth "Desk" "thing", .meth "Desk" "put", .meth "Desk" "drop", .meth "Desk" "claim", .meth "Desk" "lift", .meth "Desk" "undo", .mkr "Table", .mkr "Shelf", .mkr "Desk"]
def faY : List He.Fa := faY0 ++ faY1 ++ faY2 ++ faY3 ++ faY4 ++ faY5 ++ faY6
def tsY : List He.Tab := [(fun K => He.ga K "SIZES", ["single", "between", "nought"]), (fun K => He.ga K "NAMED", ["single", "between", "nought"])]
def tfY : List He.Defn := [("Desk", some "put"), ("_law_done", none), ("_law_right", none)]
def insB (K : PySem.W.Frag) (C : Addr) : Bool := decide (PySem.W.findIn K (.ref C) "__class__" = some (some (.builtin "object.__class__"))) && (decide (PySem.W.specialIn K (.builtin "object.__class__") "__get__" = some (some (.builtin "getset_descriptor.__get__"))) &&
  (decide (PySem.W.takesIn K (.builtin "object.__class__") = some true) && (decide (PySem.W.mroIn K C (.type "object") = some true) && decide (PySem.W.kitOne K (.ref C) (.ref C) = some true))))
/-- an own exception with its own __init__ -/
def excB (K : PySem.W.Frag) (x : Str) (bm : List Value) (nw : String) : Bool := oexBB K (He.ga K x) bm nw && (decide (PySem.W.findIn K (.ref (He.ga K x)) "__init__" = some (some (.ref (He.ma K (He.ga K x) "__init__")))) &&
  (decide (PySem.W.typeIn K (.ref (He.ma K (He.ga K x) "__init__")) = some (.type "function")) && L2.xfB K (He.ga K x)))
def noB (K : PySem.W.Frag) (x f : Str) : Bool := decide (PySem.W.findIn K (.ref (He.ga K x)) f = some none)
def exmB (K : PySem.W.Frag) (x y : Str) (b : Bool) : Bool := decide (PySem.W.exmOne K (.ref (He.ga K x)) (.ref (He.ga K y)) = some b)
def exYl (K : PySem.W.Frag) : List Bool := [propB K "Table" "text", propB K "Desk" "names", propB K "Desk" "claims", propB K "Desk" "changes", cmetB K "Table" "read", insB K (He.ga K "Table"),
  excB K "Broken" bmAE nAE, excB K "UnknownName" bmLE nLE, excB K "InUse" bmLE nLE,
  noB K "Broken" "index", noB K "Broken" "shown", noB K "UnknownName" "given", noB K "InUse" "index"]
def exYm (K : PySem.W.Frag) : List Bool := [exmB K "Broken" "Broken" true, exmB K "UnknownName" "Broken" false, exmB K "UnknownName" "UnknownName" true, exmB K "InUse" "Broken" false, exmB K "InUse" "UnknownName" false, exmB K "InUse" "InUse" true,
  exmB K "NothingToUndo" "Broken" false, exmB K "NothingToUndo" "UnknownName" false, exmB K "NothingToUndo" "InUse" false, exmB K "NothingToUndo" "NothingToUndo" true]
def exYn (K : PySem.W.Frag) : List Bool := [PySem.W.excIn K (He.ga K "NothingToUndo") bmLE nLE, PySem.W.keepIn K (.ref (He.ga K "NothingToUndo")), decide (PySem.W.subIn K (.ref (He.ga K "NothingToUndo")) (.type "BaseException") = some true), decide (PySem.W.typeIn K (.ref (He.ga K "NothingToUndo")) = some (.type "type")),
  (match PySem.W.nsIn K (He.ga K "NAMED") "single" with | some (some (.int i _)) => decide (i = 1) | _ => false), (match PySem.W.nsIn K (He.ga K "SIZES") "single" with | some (some (.int i _)) => decide (i = 2) | _ => false),
  decide (He.ga K "Desk" ≠ He.ga K "Table"), decide (He.ga K "Desk" ≠ He.ga K "Shelf"),
  decide ((He.cT K ("Desk", some "put")).2 ≠ (He.cT K ("_law_done", none)).2), decide ((He.cT K ("Desk", some "put")).2 ≠ (He.cT K ("_law_right", none)).2), decide ((He.cT K ("_law_done", none)).2 ≠ (He.cT K ("_law_right", none)).2)]
def exY (K : PySem.W.Frag) : Bool := (faY.all fun f => f.ok K) && ((exYl K).all id && ((exYm K).all id && (exYn K).all id))
abbrev RY : PySem.W.OpenRow := PySem.W.OpenLaw.row PySem.Challenge.rw_onlyanswer_k58_whole_desks_led_back
abbrev hkY : PySem.W.Hook := hookY fysY tsY tfY exY
def obY (s : PySem.W.SharedT) : AlY := obsY fysY tsY tfY exY (HandSHeadRun.getT s)
theorem obY_eq (s : PySem.W.SharedT) : obY s = hkY.obs s.abs := obsY_eq (HandSHeadRun.getT_eq s)
end Ky
end

section
set_option Elab.async false
set_option linter.all false
set_option maxRecDepth 100000
set_option maxHeartbeats 0
namespace Ky
open PySem PySem.Spec PyProof.Rows L2 LamX
theorem join3 {α β γ δ : Type} {o : Option γ} {f : γ → α} {g : γ → β} {h : γ → δ} {a : α} {b : β} {c : δ} (h1 : o.map (fun s => (f s, g s)) = some (a, b)) (h2 : o.map h = some c) : o.map (fun s => (f s, g s, h s)) = some (a, b, c) := by
  cases o with
  | none => cases h1
  | some s =>
    have e1 : (f s, g s) = (a, b) := Option.some.inj h1
    have e2 : h s = c := Option.some.inj h2
    have e3 : f s = a := congrArg Prod.fst e1
    have e4 : g s = b := congrArg Prod.snd e1
    show some (f s, g s, h s) = some (a, b, c)
    rw [e2, e3, e4]
open HandSHeadRun PySem.W in
theorem seenF (w : World) (os : OsState) : (endF (stepQ (denQ tabQ) RY.prog (w.withFollow "special-get-raises" false)) 10000 RY.prog (w.withFollow "special-get-raises" false) os).map (fun s => (looksF RY.prog (boot_heap (w.withFollow "special-get-raises" false).params) s.abs, seenQ (PySem.W.view RY.prog [112]) loose (importedModules RY.prog.main.body) (fun s => xlAt (PySem.W.view RY.prog [112]) [] s && recOk RY.toRowW.records s) s.abs)) = some (true, openGood (PySem.W.view RY.prog [112]) loose) := by kernel_rfl
open HandSHeadRun PySem.W in
theorem toldF (w : World) (os : OsState) : (endF (stepQ (denQ tabQ) RY.prog (w.withFollow "special-get-raises" false)) 10000 RY.prog (w.withFollow "special-get-raises" false) os).map (fun s => obY s) = some (hkY.val (w.withFollow "special-get-raises" false)) := by kernel_rfl
theorem runF (w : World) : HandSHeadRun.RunEq RY (PySem.W.view RY.prog [112]) hkY obY 10000 loose (w.withFollow "special-get-raises" false) := fun os => join3 (seenF w os) (toldF w os)
open HandSHeadRun PySem.W in
theorem seenT (w : World) (os : OsState) : (endF (stepQ (denQ tabQ) RY.prog (w.withFollow "special-get-raises" true)) 10000 RY.prog (w.withFollow "special-get-raises" true) os).map (fun s => (looksF RY.prog (boot_heap (w.withFollow "special-get-raises" true).params) s.abs, seenQ (PySem.W.view RY.prog [112]) loose (importedModules RY.prog.main.body) (fun s => xlAt (PySem.W.view RY.prog [112]) [] s && recOk RY.toRowW.records s) s.abs)) = some (true, openGood (PySem.W.view RY.prog [112]) loose) := by kernel_rfl
open HandSHeadRun PySem.W in
theorem toldT (w : World) (os : OsState) : (endF (stepQ (denQ tabQ) RY.prog (w.withFollow "special-get-raises" true)) 10000 RY.prog (w.withFollow "special-get-raises" true) os).map (fun s => obY s) = some (hkY.val (w.withFollow "special-get-raises" true)) := by kernel_rfl
theorem runT (w : World) : HandSHeadRun.RunEq RY (PySem.W.view RY.prog [112]) hkY obY 10000 loose (w.withFollow "special-get-raises" true) := fun os => join3 (seenT w os) (toldT w os)
theorem runY (w : World) : HandSHeadRun.RunEq RY (PySem.W.view RY.prog [112]) hkY obY 10000 loose w :=
  PySem.W.byRow2 "special-get-raises" (P := fun w => HandSHeadRun.RunEq RY (PySem.W.view RY.prog [112]) hkY obY 10000 loose w) runF runT w
end Ky
end

section
set_option Elab.async false
set_option linter.all false
set_option maxRecDepth 100000
set_option maxHeartbeats 2000000
namespace Ky
open PySem PySem.Spec PyProof.Rows L2
section
variable {X : Cx}
/-! x not in o, o of a class with its own __contains__ that answers a bool -/
def rNotInO (C : Addr) (sp : Sp) (E : XK) : R2 := fun x y H Q => ∃ a dx fs, y = .ref a ∧ H a = some (.ins C dx fs) ∧ sp [.ref a, x] H (fun v H' => ∃ b, v = .bl b ∧ Q (.bl (!b)) H') E
theorem op_notInO {CX : CXT} {k : Nat} {C f : Addr} {fd : FuncData} {ps : List Str} {sp : Sp} {E : XK} (hm : Meth X.K C "__contains__" f) (F : FnOk X.prog X.w X.K X.mg X.base CX k f fd ps sp) (hr : Room k X.A) (hb : Binds X.K fd ps []) (hx : Passes CX X E) :
    OpR X (compareOp .NotIn) (rNotInO C sp E) := by
  intro pins s σ H x y v u Q I rx ry h
  obtain ⟨a, dx, fs, rfl, ea, q⟩ := h
  cases ry
  obtain ⟨mA, J, _⟩ := ins_get I.hok ea
  obtain ⟨od, J, _⟩ := J.look
  obtain ⟨m, hF⟩ := I.fr
  refine PySem.W.notIn_K hF I.ok.mod.kin J hm.at_ hm.fn ?_
  refine wpAny_mono (run_fn (us := [.ref a, v]) (vs := [.ref a, x]) (dvs := []) (ds := []) F hr hb .nil hx I (.cons rfl (.cons rx .nil)) q) (fun r s' z => ?_) fun _ _ z => z
  obtain ⟨w', H', I', rv, b, e, q'⟩ := z
  subst e
  cases rv
  exact wpAny_truthy_bool ⟨.bl (!b), H', I', rfl, q'⟩
end
end Ky
end

section
set_option Elab.async false
set_option linter.all false
set_option maxRecDepth 100000
set_option maxHeartbeats 2000000
namespace Ky
open PySem PySem.Spec PyProof.Rows L2
/-! enumerate(t), t a tuple -/
theorem new_enumT {v : Value} {o : Obj} {Hh : Heap → Prop} (B : Begins v o Hh) :
    Meets (Builtin.«enumerate.__new__» ⟨[.type "enumerate", v], []⟩) (fun _ R s => Hh s.heap ∧
      R (.ok (.ret (.ref (s.heap.push o).objs.size))) { s with heap := (s.heap.push o).push { cls := .type "enumerate", data := .fields #[.none, .bool false, .ref s.heap.objs.size, rawInt 0, .none, .none] } }) :=
  .of_wp fun prog w A R s h => by
    obtain ⟨hp, g, d, tk, os⟩ := s; obtain ⟨h1, h⟩ := h
    have hsub := sub_enumerate
    have q1 : ∀ {A' : Around} {E : Value → Shared → Prop} {Q : Value → Shared → Prop}, Q (.ref hp.objs.size) ⟨hp.push o, g, d, tk, os⟩ → wpAny (model prog w) A' (pyIter v) Q E ⟨hp, g, d, tk, os⟩ :=
      fun q => B.iter prog w _ _ ⟨hp, g, d, tk, os⟩ _ h1 q
    wp_walk using q1
    refine wpAny_stack_any fun st => wpAny_pure ?_
    split
    · rename_i c _ _ _ _ _
      cases (c == Value.type "enumerate")
      · wp_walk using q1
        exact ⟨_, rfl, h⟩
      · wp_walk using q1
        exact ⟨_, rfl, h⟩
    · wp_walk using q1
      exact ⟨_, rfl, h⟩
theorem enumT_begins {prog : Program} {w : World} {A : Around} {E : Value → Shared → Prop} {s : Shared} {v : Value} {o : Obj} {Hh : Heap → Prop} {Q : Value → Shared → Prop} (B : Begins v o Hh) (h1 : Hh s.heap)
    (h : ∀ h', IsEnum h' (s.heap.objs.size + 1) s.heap.objs.size 0 .none → h'.get? s.heap.objs.size = some o →
      (∀ b o, s.heap.get? b = some o → h'.get? b = some o) → Q (.ref (s.heap.objs.size + 1)) { s with heap := h' }) :
    wpAny (model prog w) A (call (.type "enumerate") [v]) Q E s := by
  refine callType_new F.called_enumerate (by decide) (F.typeCall_enumerate_1 _) (F.newCall_enumerate_1 _) (fun obj => F.args_object_init_2 obj _) F.entry_enumerate_new (new_enumT B) ⟨h1, ?_⟩
  have hz : (s.heap.push o).objs.size = s.heap.objs.size + 1 := Heap.size_push ..
  show _ ∧ _
  rw [hz]
  have he : IsEnum ((s.heap.push o).push { cls := .type "enumerate", data := .fields #[.none, .bool false, .ref s.heap.objs.size, rawInt 0, .none, .none] }) (s.heap.objs.size + 1) s.heap.objs.size 0 .none := by
    have q := Heap.get?_push_size (s.heap.push o) (o := { cls := .type "enumerate", data := .fields #[.none, .bool false, .ref s.heap.objs.size, rawInt 0, .none, .none] }) rfl
    rw [hz] at q
    exact q
  exact ⟨⟨_, he, rfl⟩, h _ he (Heap.get?_push_of_some _ (Heap.get?_push_size _ B.free)) fun b o x => Heap.get?_push_of_some _ (Heap.get?_push_of_some _ x)⟩
/-- the tuple at a, each item in a new pair -/
def Iet (K : PySem.W.Frag) (a : Addr) : It :=
  ⟨fun i H => ∃ (xs : List V) (x : V), SqT K H a xs ∧ xs[i]? = some x, fun i H v H' => ∃ T x, v = .ref T ∧ H T = none ∧ H' = upd H T (.tup [.int (i : Nat), x]) ∧ ∀ xs, SqT K H a xs → xs[i]? = some x, fun i H => ∃ xs : List V, SqT K H a xs ∧ xs.length = i⟩
theorem tup_ne_iter {h : Heap} {a it : Addr} {its : Array Value} {i : Nat} (p : h.IsTuple a its) (q : h.IsTupleIter it a i) : a ≠ it := by
  intro e
  obtain ⟨o, ho, hc, _⟩ := p
  obtain ⟨o', ho', hc', _⟩ := q
  rw [e, ho'] at ho
  have e2 := Option.some.inj ho
  rw [e2, hc] at hc'
  exact absurd hc' (by decide)
theorem turn_enumT {P : Program} {w : World} {K : PySem.W.Frag} {elts : List Expr} {kk : Nat} {tpos : Pos} (a e it : Addr) :
    Turn P w K (.Tuple elts kk tpos) (Iet K a) [e, it] e (fun i h => (∃ old, IsEnum h e it ((i : Nat) : Int) old) ∧ h.IsTupleIter it a i ∧ e ≠ it ∧ e ≠ a) where
  mem := by simp
  obj := fun i h st b hb => by
    obtain ⟨⟨old, he⟩, ⟨o, ho, hc, hd⟩, _⟩ := st
    have e' : b = e ∨ b = it := by simpa using hb
    rcases e' with z | z
    · rw [z]; exact ⟨_, he, fun v q => nomatch q⟩
    · rw [z]; exact ⟨o, ho, fun v q => by rw [hd] at q; cases q⟩
  keep := fun i h h' st k => let ⟨⟨old, he⟩, hi, hne⟩ := st; ⟨⟨old, k e (by simp) _ he⟩, hi.at fun o q => k it (by simp) o q, hne⟩
  item := by
    intro X hP hw hK hc i pins s σ H E I hf st hg
    subst hP hw hK
    obtain ⟨⟨old, he⟩, hit, hne, hea⟩ := st
    obtain ⟨xs, x, hq, hx⟩ := hg
    obtain ⟨its, rv, p, hz⟩ := I.tuple hq
    obtain ⟨u, hu, ru⟩ := rv.get hx
    have hel : e < s.heap.objs.size := Heap.lt_size he
    have hil : it < s.heap.objs.size := by obtain ⟨_, q, _⟩ := hit; exact Heap.lt_size q
    have hlt : i < its.toArray.size := by
      have := (List.getElem?_eq_some_iff.mp hu).1
      simpa using this
    have hai : a ≠ it := tup_ne_iter p hit
    refine wpAny_pyNext_enum_itemD (Draws.tuple (A := X.A.in1) (I.ok.hd hc) it a hai its.toArray) he ⟨hit, p⟩ hlt hne (by simp [hne, hea]) fun z h' tk hzu ho hst' hT hsz hk => ?_
    obtain rfl : z = u := by
      have q : its.toArray[i]? = some z := hzu
      rw [show its.toArray[i]? = its[i]? from by simp, hu] at q
      exact (Option.some.inj q).symm
    refine ⟨_, rfl, wpAny_letOwnedTupleGo_enum (s := { s with heap := h', toks := tk + 1 }) ho fun h'' he' sb => ?_⟩
    have hT2 : h''.get? s.heap.objs.size = some { cls := .type "tuple", data := .seq #[.int i tk, z] } := (sb.2 _ (Nat.ne_of_gt hel)).trans hT
    have new : ObjOk X.prog X.w (upd H s.heap.objs.size (.tup [.int (i : Nat), x])) h'' s.heap.objs.size (.tup [.int (i : Nat), x]) :=
      ⟨by show 2 ≤ sizeLine; decide, [.int i tk, z], .cons ⟨_, rfl⟩ (.cons ru .nil), ⟨_, hT2, rfl, _, rfl⟩⟩
    have I1 : Inv X pins σ (upd H s.heap.objs.size (.tup [.int (i : Nat), x])) { s with heap := h'', toks := tk + 1 } :=
      I.turnedNew (ch := [e, it]) (fun b ob hb q => (sb.2 b (fun z => hb (by simp [z]))).trans (hk b ob (fun z => hb (by simp [z])) (fun z => hb (by simp [z])) q)) hf (Nat.le_refl _) new
    refine ⟨.ref s.heap.objs.size, _, I1, rfl, ⟨_, x, rfl, I.hok.fresh (Nat.le_refl _), rfl, fun ys hy => by rw [I.tuple_inj hy hq]; exact hx⟩, ⟨⟨z, ?_⟩, hst'.1.at fun o q => (sb.2 it (Ne.symm hne)).trans q, hne, hea⟩, fun b hb => ?_⟩
    · have e1 : ((i + 1 : Nat) : Int) = (i : Int) + 1 := by omega
      rw [e1]; exact he'
    · have hb' : b < s.heap.objs.size := by
        have e' : b = e ∨ b = it := by simpa using hb
        rcases e' with z | z
        · rw [z]; exact hel
        · rw [z]; exact hil
      rw [upd_ne (Nat.ne_of_lt hb')]
      exact (hf b hb).1
  done := by
    intro X hP hw hK hc i pins s σ H E I hf st hg
    subst hP hw hK
    obtain ⟨⟨old, he⟩, hit, hne, hea⟩ := st
    obtain ⟨xs, hq, hx⟩ := hg
    obtain ⟨its, rv, p, hz⟩ := I.tuple hq
    obtain ⟨f0, f1, f2, f3, f4, f5⟩ := hf it (by simp)
    have hl := rv.length
    have hai : a ≠ it := tup_ne_iter p hit
    have hn : its.toArray.size = i := by simp; omega
    refine wpAny_pyNext_enum_endD (Draws.tuple (A := X.A.in1) (I.ok.hd hc) it a hai its.toArray) he (show _ ∧ _ from ⟨by rw [hn]; exact hit, p⟩) fun h' eb => ⟨rfl, I.turned (t' := s.toks) (fun b o hb q => eb b o hb q) f0 f1 f3 f4 f5⟩
  self := fun A i s Q E st h => let ⟨⟨_, he⟩, _⟩ := st; wpAny_pyIter_enum he h
def iEnumT (K : PySem.W.Frag) (ta : TA) : TI := fun σ H R => ta σ H fun vs H1 => ∃ a xs, vs = [.ref a] ∧ SqT K H1 a xs ∧ R (Iet K a) H1
theorem pi_enumT {X : Cx} {e : Expr} {ta : TA} {p pos tpos : Pos} {elts : List Expr} {kk : Nat} (hg : Gl X "enumerate") (hm : X.mg "enumerate" = none) (ha : PA X [e] ta) (hs : starEach [e] X.env = [(false, eval e X.env)] := by rfl) :
    PI X (.Tuple elts kk tpos) (.Call (.Name "enumerate" p) [e] [] pos) (iEnumT X.K ta) := by
  refine ⟨fun pins s σ H R I h => ?_⟩
  refine Call_ (ld_blt I hg hm boot_enumerate (PyProof.Rows.callWith_type1 (thn (ha.run pos pins s σ H _ I h) fun us s1 ⟨vs, H1, I1, r1, q1⟩ => ?_) hs rfl))
  obtain ⟨a, xs, ex, hq, q⟩ := q1
  subst ex
  cases r1 with
  | cons r rr =>
    cases rr
    cases r
    obtain ⟨its, rv, p', hz⟩ := I1.tuple hq
    have hal : a < s1.heap.objs.size := p'.lt
    refine enumT_begins (begins_tuple a its.toArray) p' fun h' he hit hk => wpAny_pyIter_enum he ?_
    have I2 : Inv X pins σ H1 { s1 with heap := h' } := I1.kept (t' := s1.toks) hk
    refine ⟨s1.heap.objs.size + 1, [s1.heap.objs.size + 1, s1.heap.objs.size], _, _, H1, rfl, I2, turn_enumT a (s1.heap.objs.size + 1) s1.heap.objs.size, ⟨⟨.none, he⟩, ⟨_, hit, rfl, rfl⟩, Nat.succ_ne_self _, Nat.ne_of_gt (Nat.lt_succ_of_lt hal)⟩, fun b hb => ?_, q⟩
    have e' : b = s1.heap.objs.size + 1 ∨ b = s1.heap.objs.size := by simpa using hb
    have hle : s1.heap.objs.size ≤ b := by
      rcases e' with z | z
      · rw [z]; exact Nat.le_add_right _ _
      · rw [z]; exact Nat.le_refl _
    exact I1.fpOk hle (I1.hok.fresh hle)
/-- a for over enumerate of a tuple that stands still: each turn the pair (i, x) at a new T, unpacked into two names -/
theorem for_enumT {K : PySem.W.Frag} {a : Addr} {xs : List V} {g : TG} {tb : TS} {D : Ends} {σ : St} {H : Hp} (Pv : Nat → St → Hp → Prop) (h0 : Pv 0 σ H) (hl : ∀ i σ H, i ≤ xs.length → Pv i σ H → SqT K H a xs)
    (hs : ∀ i x T σ H, xs[i]? = some x → Pv i σ H → H T = none → g (.ref T) σ (upd H T (.tup [.int (i : Nat), x])) fun σ2 H2 => tb { D with nx := Pv (i + 1), ct := Pv (i + 1), bk := D.nx } σ2 H2) (hd : ∀ σ H, Pv xs.length σ H → D.nx σ H) :
    ∃ W : Nat → Nat → St → Hp → Prop, (∃ m, W 0 m σ H) ∧ ∀ i m σ H, W i m σ H →
      ((Iet K a).stop i H ∧ D.nx σ H) ∨ ((Iet K a).go i H ∧ ∃ N : St → Hp → Prop, (∀ σ' H', N σ' H' → ∃ m', m' < m ∧ W (i + 1) m' σ' H') ∧ ∀ x H', (Iet K a).yld i H x H' → g x σ H' fun σ2 H2 => tb { D with nx := N, ct := N, bk := D.nx } σ2 H2) := by
  refine ⟨fun i m σ H => m = xs.length - i ∧ i ≤ xs.length ∧ Pv i σ H, ⟨xs.length, by simp, Nat.zero_le _, h0⟩, ?_⟩
  rintro i m σ H ⟨rfl, hi, p⟩
  have q := hl i σ H hi p
  by_cases hlt : i < xs.length
  · refine .inr ⟨⟨xs, xs[i], q, by simp [hlt]⟩, Pv (i + 1), fun σ' H' p' => ⟨xs.length - (i + 1), by omega, rfl, hlt, p'⟩, fun x H' y => ?_⟩
    obtain ⟨T, x', e, hn, e2, y⟩ := y
    subst e e2
    exact hs i x' T σ _ (y xs q) p hn
  · have e : i = xs.length := by omega
    subst e
    exact .inl ⟨⟨xs, q, rfl⟩, hd σ H p⟩
/-- the same over a list -/
theorem for_enumL {K : PySem.W.Frag} {a : Addr} {xs : List V} {g : TG} {tb : TS} {D : Ends} {σ : St} {H : Hp} (Pv : Nat → St → Hp → Prop) (h0 : Pv 0 σ H) (hl : ∀ i σ H, i ≤ xs.length → Pv i σ H → SqL K H a xs)
    (hs : ∀ i x T σ H, xs[i]? = some x → Pv i σ H → H T = none → g (.ref T) σ (upd H T (.tup [.int (i : Nat), x])) fun σ2 H2 => tb { D with nx := Pv (i + 1), ct := Pv (i + 1), bk := D.nx } σ2 H2) (hd : ∀ σ H, Pv xs.length σ H → D.nx σ H) :
    ∃ W : Nat → Nat → St → Hp → Prop, (∃ m, W 0 m σ H) ∧ ∀ i m σ H, W i m σ H →
      ((Ite K a).stop i H ∧ D.nx σ H) ∨ ((Ite K a).go i H ∧ ∃ N : St → Hp → Prop, (∀ σ' H', N σ' H' → ∃ m', m' < m ∧ W (i + 1) m' σ' H') ∧ ∀ x H', (Ite K a).yld i H x H' → g x σ H' fun σ2 H2 => tb { D with nx := N, ct := N, bk := D.nx } σ2 H2) := by
  refine ⟨fun i m σ H => m = xs.length - i ∧ i ≤ xs.length ∧ Pv i σ H, ⟨xs.length, by simp, Nat.zero_le _, h0⟩, ?_⟩
  rintro i m σ H ⟨rfl, hi, p⟩
  have q := hl i σ H hi p
  by_cases hlt : i < xs.length
  · refine .inr ⟨⟨xs, xs[i], q, by simp [hlt]⟩, Pv (i + 1), fun σ' H' p' => ⟨xs.length - (i + 1), by omega, rfl, hlt, p'⟩, fun x H' y => ?_⟩
    obtain ⟨T, x', e, hn, e2, y⟩ := y
    subst e e2
    exact hs i x' T σ _ (y xs q) p hn
  · have e : i = xs.length := by omega
    subst e
    exact .inl ⟨⟨xs, q, Nat.le_refl _⟩, hd σ H p⟩
end Ky
end

section
set_option Elab.async false
set_option linter.all false
set_option maxRecDepth 100000
set_option maxHeartbeats 2000000
namespace Ky
open PySem PySem.Spec PyProof.Rows L2
/-! try with several except clauses, some with a name -/
/-- the ends behind a clause whose name (slot i) goes -/
def offE (i : Nat) (D : Ends) : Ends := { nx := fun σ' H' => D.nx (σ'.set i none) H', rt := D.rt, bk := fun σ' H' => D.bk (σ'.set i none) H', ct := fun σ' H' => D.ct (σ'.set i none) H' }
/-- the reading of a clause with the name at slot i -/
def asT (i : Nat) (ts : Addr → Value → Option Addr → TS) : Addr → Value → Option Addr → TS := fun a cls d D σ H => ts a cls d (offE i D) (σ.set i (some (.ref a))) H
inductive HdsMix (X : Cx) : List ExceptHandler → List (Value × (Addr → Value → Option Addr → TS)) → Prop
  | nil : HdsMix X [] []
  | cons {x : Str} {c : Value} {ts : Addr → Value → Option Addr → TS} {b₀ : Stmt} {suite : List Stmt} {np pos' : Pos} {hds : List ExceptHandler} {l : List (Value × (Addr → Value → Option Addr → TS))} (hc : Names X x c)
      (hsu : ∀ (a : Addr) (oe : Obj) (cls : Value) (d : Option Addr) (pn : List (Addr × Obj)), Zc cls d oe → (∃ vs, oe.data = .fields vs) → PSs (X.suite a ((a, oe) :: pn)) (b₀ :: suite) (ts a cls d)) (r : HdsMix X hds l) :
      HdsMix X (.ExceptHandler (some (.Name x np)) none (b₀ :: suite) pos' :: hds) ((c, ts) :: l)
  | consAs {x n : Str} {i : Nat} {c : Value} {ts : Addr → Value → Option Addr → TS} {b₀ : Stmt} {suite : List Stmt} {np pos' : Pos} {hds : List ExceptHandler} {l : List (Value × (Addr → Value → Option Addr → TS))} (hN : X.N.Nodup) (hi : X.N[i]? = some n) (hln : X.env.kindOf n = some .local) (hc : Names X x c)
      (hsu : ∀ (a : Addr) (oe : Obj) (cls : Value) (d : Option Addr) (pn : List (Addr × Obj)), Zc cls d oe → (∃ vs, oe.data = .fields vs) → PSs (X.suite a ((a, oe) :: pn)) (b₀ :: suite) (ts a cls d)) (r : HdsMix X hds l) :
      HdsMix X (.ExceptHandler (some (.Name x np)) (some n) (b₀ :: suite) pos' :: hds) ((c, asT i ts) :: l)
section
variable {X : Cx} {body : List Stmt} {h₀ : ExceptHandler} {hds : List ExceptHandler} {l : List (Value × (Addr → Value → Option Addr → TS))} {pos : Pos} {tb : WX → TS} {Wout : WX}
theorem ps_try_mix (hs : X.stack = X.env :: X.outer) (hf : X.env.frame = some X.env.locals) (tk : Takes X Wout)
    (hb : ∀ (W : WX) (pn : List (Addr × Obj)) (xe : Value → Shared → Prop), Takes (X.tr pn xe) W → PassesOwn (model X.prog X.w) X.A X.env xe → PSs (X.tr pn xe) body (tb W))
    (hh : HdsMix X (h₀ :: hds) l) : PS X (.Try body (h₀ :: hds) [] [] pos) (fun D σ H => tb (wMany X.K Wout D l) D σ H) := by
  refine ⟨fun pins s σ H D I h => ?_⟩
  have ok := I.ok
  have hfr : X.A.frames = some (X.env :: X.outer) := by rw [ok.frames, hs]
  refine wpAny_Try_except ?_
  refine wpAny_mono ((hb (wMany X.K Wout D l) (X.pn ++ pins) (fun e s₁ => wpAny (model X.prog X.w) X.A (noteFrame e X.env) (fun _ s₂ => wpAny (model X.prog X.w) X.A (setFlight e none) (fun _ s₃ =>
    wpAny (model X.prog X.w) X.A (handleBy e X.env (h₀ :: hds)) (SP X pins D) X.xe s₃) X.xe s₂) X.xe s₁) (fun u s' xx => ?_) PassesOwn.looking).run [] s σ H D (I.toTry _) h) (fun f s1 hsp => ?_) (fun e s1 he => he)
  · -- the catch
    obtain ⟨a, B, sI, pins', σ', H', cls, d, rfl, J', nb, up, sky, na, os, ag, w⟩ := xx
    have J : Inv X pins σ' H' sI := J'.ofTry ok
    have sky' : Sky B (X.env :: X.outer) a (Zc cls d) X.env.locals s'.heap := by rw [← hs]; exact sky
    show wpAny (model X.prog X.w) X.A (noteFrame (.ref a) X.env) _ _ _
    refine Sky.land Zc.steady hfr hf sky' fun h3 fl3 up3 => ?_
    have J3 : Inv X pins σ' H' { s' with heap := h3 } := J.landed nb fl3.1 (up.trans up3) os ag
    obtain ⟨oe3, vs3, he3, hz3, hd3⟩ := fl3.there
    have notFr : ∀ {h : Heap} {o : Obj} {vs : Array Value}, h.FunFrames B (X.env :: X.outer) → h.get? a = some o → o.data = .fields vs → a ∉ frs (X.env :: X.outer) := fun {h o vs} ff e dd hm => by
      obtain ⟨_, o', e', hnf⟩ := ff.mem hm
      rw [e] at e'; cases e'
      exact hnf _ dd
    have nfr := notFr fl3.2.2.1 he3 hd3
    have nL : a ≠ X.env.locals := fun z => nfr (List.mem_filterMap.mpr ⟨X.env, List.mem_cons_self, by rw [hf, z]⟩)
    have nF : a ∉ X.fs := fun hm => by
      obtain ⟨e, he, q⟩ := List.mem_filterMap.mp hm
      exact nfr (List.mem_filterMap.mpr ⟨e, List.mem_cons_of_mem _ he, q⟩)
    have S3 := J3.suite he3 hd3 na nL nF
    have go : ∀ {hds' : List ExceptHandler} {l' : List (Value × (Addr → Value → Option Addr → TS))}, HdsMix X hds' l' → wMany X.K Wout D l' cls d σ' H' →
        wpAny (model X.prog X.w) X.A (handleBy (.ref a) X.env hds') (SP X pins D) X.xe { s' with heap := h3 } := by
      intro hds' l' hk
      induction hk with
      | nil =>
        intro w
        refine wpAny_handleBy_nil ?_
        obtain ⟨k1, k2, k3, oe, vs, T, oT, ts', he, hz, hd, h1, hr⟩ := id fl3
        unfold PySem.passOn
        refine wpAny_bind (wpAny_field he hd h1 ?_)
        rw [if_neg (show ¬ ((Value.ref T == Value.none) = true) from by simp)]
        have fin : wpAny (model X.prog X.w) X.A (setFlight (.ref a) X.env.frame) (fun _ s4 => wpAny (model X.prog X.w) X.A (throw (.ref a) : Sem Flow) (SP X pins D) X.xe s4) X.xe { s' with heap := h3 } := by
          rw [hf]
          refine HandSPX.setFlight_upZ fl3 fun h4 hh4 up4 => wpAny_throw (tk _ _ ?_)
          exact ⟨a, B, sI, pins, σ', H', cls, d, rfl, J, nb, (up.trans up3).trans up4, .inr (.inr (by rw [hs]; exact hh4)), na, os, ag, w⟩
        first
          | exact wpAny_bind (wpAny_pure (wpAny_bind fin))
          | exact wpAny_bind fin
      | @cons x c ts b₀ suite np pos' hds2 l2 hc hsu r ih =>
        intro w
        obtain ⟨b, hb1, hyes, hno⟩ := w
        refine wpAny_handleBy_cons (codeAny_handlers_test ?_) (by intro q; cases q)
        have LT : PySem.W.Looks (model X.prog X.w) h3 (typeOf (.ref a)) cls := fun A Q E s k q => wpAny_typeOf_ref (k _ _ he3) (by rw [hz3.1]; exact q)
        have LM := PySem.W.exm_one (M := model X.prog X.w) (J3.kIn) LT hb1
        have test : ∀ {Q : Value → Shared → Prop} {E : Value → Shared → Prop}, Q c { s' with heap := h3 } → wpAny (model X.prog X.w) (X.A.mark (some (.ref a))) (eval (.Name x np) X.env) Q E { s' with heap := h3 } := fun {Q E} q => by
          obtain ⟨hg, hdbg, hm | ⟨hm, hv, hnn⟩⟩ := hc
          · exact ld_glob (X := X.suite a ((a, oe3) :: (X.pn ++ pins))) S3 hg hm q hdbg
          · exact ld_blt (X := X.suite a ((a, oe3) :: (X.pn ++ pins))) S3 hg hm hv q hnn hdbg
        refine test (LM.here ?_)
        cases b with
        | true =>
          refine codeAny_handlers_suite ?_
          refine HandSPX.lands_againZ fl3 fun h4 fl4 up4 => ?_
          have J4 : Inv X pins σ' H' { s' with heap := h4 } := J.landed nb fl4.1 ((up.trans up3).trans up4) os ag
          obtain ⟨oe4, vs4, he4, hz4, hd4⟩ := fl4.there
          have S4 := J4.suite he4 hd4 na nL nF
          refine wpAny_mono ((hsu a oe4 cls d (X.pn ++ pins) hz4 ⟨_, hd4⟩).run [] _ _ H' _ S4 (hyes rfl a na)) (fun f s6 hsp => ?_) (fun _ _ z => False.elim z)
          cases f with
          | next =>
            obtain ⟨σ6, H6, S6, q6⟩ := hsp
            exact ⟨_, _, S6.unsuite ok, q6⟩
          | brk =>
            obtain ⟨σ6, H6, S6, q6⟩ := hsp
            exact ⟨_, _, S6.unsuite ok, q6⟩
          | cont =>
            obtain ⟨σ6, H6, S6, q6⟩ := hsp
            exact ⟨_, _, S6.unsuite ok, q6⟩
          | ret u =>
            obtain ⟨v6, σ6, H6, S6, r6, q6⟩ := hsp
            exact ⟨_, _, _, S6.unsuite ok, r6, q6⟩
        | false =>
          show wpAny _ X.A (handleBy (.ref a) X.env hds2) _ _ _
          exact ih (hno rfl)
      | @consAs x n i c ts b₀ suite np pos' hds2 l2 hN hi hln hc hsu r ih =>
        intro w
        obtain ⟨b, hb1, hyes, hno⟩ := w
        have hloc : Loc X.env.scope n := .inl hln
        refine wpAny_handleBy_cons (codeAny_handlers_test ?_) (by intro q; cases q)
        have LT : PySem.W.Looks (model X.prog X.w) h3 (typeOf (.ref a)) cls := fun A Q E s k q => wpAny_typeOf_ref (k _ _ he3) (by rw [hz3.1]; exact q)
        have LM := PySem.W.exm_one (M := model X.prog X.w) (J3.kIn) LT hb1
        have test : ∀ {Q : Value → Shared → Prop} {E : Value → Shared → Prop}, Q c { s' with heap := h3 } → wpAny (model X.prog X.w) (X.A.mark (some (.ref a))) (eval (.Name x np) X.env) Q E { s' with heap := h3 } := fun {Q E} q => by
          obtain ⟨hg, hdbg, hm | ⟨hm, hv, hnn⟩⟩ := hc
          · exact ld_glob (X := X.suite a ((a, oe3) :: (X.pn ++ pins))) S3 hg hm q hdbg
          · exact ld_blt (X := X.suite a ((a, oe3) :: (X.pn ++ pins))) S3 hg hm hv q hnn hdbg
        refine test (LM.here ?_)
        cases b with
        | true =>
          refine codeAny_handlers_suite_as ?_
          refine HandSPX.lands_againZ fl3 fun h4 fl4 up4 => ?_
          have J4 : Inv X pins σ' H' { s' with heap := h4 } := J.landed nb fl4.1 ((up.trans up3).trans up4) os ag
          obtain ⟨oe4, vs4, he4, hz4, hd4⟩ := fl4.there
          have S4 := J4.suite he4 hd4 na nL nF
          refine store_ok (X := X.suite a ((a, oe4) :: (X.pn ++ pins))) (v := .ref a) S4 hN hi hloc rfl (fun s5 S5 => ?_) (.inr hln)
          refine wpAny_mono ((hsu a oe4 cls d (X.pn ++ pins) hz4 ⟨_, hd4⟩).run [] s5 _ H' _ S5 (hyes rfl a na)) (fun f s6 hsp => ?_) (fun _ _ z => False.elim z)
          have end_ : ∀ {σ6 : St} {H6 : Hp} {Q : Shared → Prop}, Inv (X.suite a ((a, oe4) :: (X.pn ++ pins))) [] σ6 H6 s6 → (∀ s7, Inv X pins (σ6.set i none) H6 s7 → Q s7) →
              wpAny (model X.prog X.w) X.A (do bindName X.env n .none; unbindBehindTheSuite X.env n pos') (fun _ s7 => Q s7) X.xe s6 := fun {σ6 H6 Q} S6 hq => gone_ok (S6.unsuite ok) hN hi hln hq
          cases f with
          | next =>
            obtain ⟨σ6, H6, S6, q6⟩ := hsp
            exact end_ S6 fun s7 J7 => ⟨_, _, J7, q6⟩
          | brk =>
            obtain ⟨σ6, H6, S6, q6⟩ := hsp
            exact end_ S6 fun s7 J7 => ⟨_, _, J7, q6⟩
          | cont =>
            obtain ⟨σ6, H6, S6, q6⟩ := hsp
            exact end_ S6 fun s7 J7 => ⟨_, _, J7, q6⟩
          | ret u =>
            obtain ⟨v6, σ6, H6, S6, r6, q6⟩ := hsp
            exact end_ S6 fun s7 J7 => ⟨_, _, _, J7, r6, q6⟩
        | false =>
          show wpAny _ X.A (handleBy (.ref a) X.env hds2) _ _ _
          exact ih (hno rfl)
    exact go hh w
  · cases f with
    | next =>
      obtain ⟨σ', H', J', q⟩ := hsp
      exact wpAny_execs_nil ⟨σ', H', J'.ofTry ok, q⟩
    | brk =>
      obtain ⟨σ', H', J', q⟩ := hsp
      exact ⟨σ', H', J'.ofTry ok, q⟩
    | cont =>
      obtain ⟨σ', H', J', q⟩ := hsp
      exact ⟨σ', H', J'.ofTry ok, q⟩
    | ret u =>
      obtain ⟨v, σ', H', J', r, q⟩ := hsp
      exact ⟨v, σ', H', J'.ofTry ok, r, q⟩
end
end Ky
end

section
set_option Elab.async false
set_option linter.all false
set_option maxRecDepth 100000
set_option maxHeartbeats 2000000
namespace Ky
open PySem PySem.Spec PyProof.Rows L2
open PySem.W (KeyPure dataLe dataLt AllAlike Sortable EachIs)
/-! sorted(xs, key=f) -/
theorem each_vals : ∀ {xs : List V} {us : List Value}, Vals xs us → EachIs (fun v x => RelV x v) us xs
  | _, _, .nil => .nil
  | _, _, .cons h t => .cons h (each_vals t)
theorem vals_each : ∀ {us : List Value} {xs : List V}, EachIs (fun v x => RelV x v) us xs → Vals xs us
  | _, _, .nil => .nil
  | _, _, .cons h t => .cons h (vals_each t)
section
variable {X : Cx} {pins : List (Addr × Obj)} {s : Shared} {σ : St} {H : Hp} {a q : Addr} {xs : List V} {k : V → PyData} {Q : VK}
theorem sorted_key_run (I : Inv X pins σ H s) (hs : SqL X.K H a xs) (hal : AllAlike (xs.map k)) (hk : Sortable (xs.map k)) (hu : ∀ x, x ∈ xs → X.A.units + 2 + (k x).depth < cLine)
    (turn : ∀ (v : Value) (x : V), RelV x v → x ∈ xs → ∀ (h : Heap) (tk : Nat), (∀ b o, s.heap.get? b = some o → h.get? b = some o) →
      wpAny (model X.prog X.w) X.A.in1.in1 (call (.ref q) [v]) (KeyPure (k x) { s with heap := h, toks := tk }) (fun _ _ => False) { s with heap := h, toks := tk })
    (hq : ∀ p, H p = none → Q (.ref p) (upd H p (.lst (xs.mergeSort (dataLe false k))))) :
    wpAny (model X.prog X.w) X.A (call (.builtin "sorted") [.ref a] [(Str.ofString "key", .ref q)]) (EP X pins σ Q) X.xe s := by
  obtain ⟨its, r, pl, hz⟩ := I.list hs
  have hl : its.length ≤ sizeLine := by
    have := r.length
    omega
  have hx : xs.length ≤ sizeLine := by
    have := r.length
    omega
  refine PySem.W.sorted_key_data (b := false) (vs := its) k pl.isList (each_vals r) hal hk hx hu (PyProof.Rows.ksk_s1 _ _) (fun _ => PyProof.Rows.ksk_l1 _ _) (fun _ => PyProof.Rows.ksk_t1 _ _) turn fun out c h' tk kp hn hD hlen eo => ?_
  have hp : H (s.heap.objs.size + 1) = none := I.hok.fresh (Nat.le_succ _)
  have rz : Vals (xs.mergeSort (dataLe false k)) out := vals_each eo
  have hz2 : (xs.mergeSort (dataLe false k)).length ≤ sizeLine := by rw [rz.length, hlen]; exact hx
  exact ⟨.ref (s.heap.objs.size + 1), _, I.laid (t' := tk) (o := .lst (xs.mergeSort (dataLe false k))) kp (Nat.le_succ _) ⟨hz2, out, c, rz, hD⟩, rfl, hq _ hp⟩
end
/-- sorted gives a rearrangement, in order -/
theorem sort_perm (k : V → PyData) (xs : List V) : (xs.mergeSort (dataLe false k)).Perm xs := List.mergeSort_perm xs _
theorem sort_pair (k : V → PyData) (xs : List V) : (xs.mergeSort (dataLe false k)).Pairwise fun x y => dataLt (k y) (k x) = false := by
  have h := PySem.W.sort_pairwise (PySem.W.sortLe_total (PyProof.Rows.listOrd PyProof.Rows.itemOrd) false fun b => PySem.W.keyToks (k b)) xs
  refine List.Pairwise.imp (fun {x y} e => ?_) h
  have e' : (!dataLt (k y) (k x)) = true := e
  simpa using e'
end Ky
end

section
set_option Elab.async false
set_option linter.all false
set_option maxRecDepth 100000
set_option maxHeartbeats 2000000
namespace Ky
open PySem PySem.Spec PyProof.Rows L2
open PySem.W (KeyPure dataLe dataLt AllAlike Sortable EachIs)
theorem reads_ints {h : Heap} : ∀ {ns : List Int} {vs : List Value}, Vals (ns.map V.int) vs → ReadsAll h vs (ns.map PyData.int) []
  | [], _, r => by
    cases r
    exact .nil
  | n :: ns, _, r => by
    cases r with
    | cons h1 h2 =>
      obtain ⟨t, rfl⟩ := h1
      exact ReadsAll.cons (as := []) (bs := []) (.int n t) (reads_ints h2)
/-- rank_of(lot): (len(lot), lot), over the heap itself -/
theorem rank_call {P : Program} {w : World} {K : PySem.W.Frag} {mg : Str → Option Value} {base : Heap} {f : Addr} {fd : FuncData} {A : Around} {s : Shared} {E : Value → Shared → Prop} {lot : Addr} {ns : List Int} {its : List Value}
    (F : L2.Fun K "rank_of" "rank_of" sRank f fd) (mod : Mod K mg base) (len : mg "len" = none) (kb : ∀ b o, base.get? b = some o → s.heap.get? b = some o) (hd : A.depth < recursionLimit)
    (ht : IsTup s.heap lot its.toArray) (r : Vals (ns.map V.int) its) (hz : ns.length ≤ 1000) :
    wpAny (model P w) A (call (.ref f) [.ref lot]) (KeyPure (.tuple [.int ns.length, .tuple (ns.map .int)]) s) E s := by
  obtain ⟨oc, od, kV, doc, pm, an, cdv, ct, osl, hfd, lk, hcd⟩ := F.ex
  subst hfd
  have KX : K.In s.heap := mod.kin.keeps kb
  have lim : s.heap.NoLimit := mod.nolimit.keeps kb
  refine wpAny_call (Att.call_fn (binds := [("lot", .ref lot)]) KX lim lk hcd hd (BindsTo.of_eq (by first | rfl | with_unfolding_all rfl)) (by first | rfl | decide | with_unfolding_all rfl) (fun s1 IC => ?_) rfl rfl rfl)
  obtain ⟨h1, tk1, rfl⟩ := IC.toInCall.same
  have k : ∀ b o, s.heap.get? b = some o → h1.get? b = some o := IC.toInCall.keep
  have hn := IC.toInCall.ns
  obtain ⟨mb, hb1, hb2⟩ := mod.blt
  have hlen : its.length = ns.length := by
    have := r.length
    simpa using this.symm
  have ht1 : IsTup h1 lot its.toArray := by
    obtain ⟨o, ho, hc, n, hdt⟩ := ht
    exact ⟨o, k _ _ ho, hc, n, hdt⟩
  have lot1 : ∀ {Q : Value → Shared → Prop} {E : Value → Shared → Prop} {A : Around} {pos : Pos} {tk : Nat}, Q (.ref lot) { s with heap := h1, toks := tk } → wpAny (model P w) A (eval (.Name "lot" pos) (envOfC "rank_of" (defScope sRank) s.heap.objs.size f cdv)) Q E { s with heap := h1, toks := tk } := fun q =>
    wpAny_Name (wpAny_loadName_local (v := .ref lot) rfl (by first | rfl | with_unfolding_all rfl | kernel_rfl) hn (by first | rfl | with_unfolding_all rfl | kernel_rfl) q)
  show wpAny _ _ (execs _ _) _ _ _
  refine wpAny_execs_cons (wpAny_Return_some (wpAny_Tuple_spliced (Calls.spliced_cons ?_)))
  refine wpAny_Call_Name_kw ?_
  refine Calls.Name_function_global (env := envOfC "rank_of" (defScope sRank) s.heap.objs.size f cdv) (x := "len") ?_ ?_ ?_ ?_
  · rfl
  · first | rfl | with_unfolding_all rfl | kernel_rfl
  · refine Calls.loadGlobal_builtin (mod.glob.keeps fun b o e => k b o (kb b o e)) len (hb1.keeps fun b o e => k b o (kb b o e)) ((hb2 "len" (by decide)).trans boot_len) ?_
    refine PyProof.Rows.callWith_builtin1 (Calls.spliced_cons (lot1 (Calls.spliced_nil ?_))) (by rfl) (by rfl)
    refine len_tuple ht1 (by have := hlen; simp only [List.size_toArray]; omega) ?_
    refine Calls.spliced_cons (lot1 (Calls.spliced_nil ⟨by show 2 ≤ sizeLine; decide, ?_⟩))
    refine ⟨_, _, rfl, fun b o e => Heap.get?_push_of_some _ (k b o e), ?_⟩
    obtain ⟨o, ho, hc, n, hdt⟩ := ht1
    have hp : (h1.push { cls := .type "tuple", data := .seq #[Value.int its.toArray.size (tk1 + 1), .ref lot] }).get? h1.objs.size = some { cls := .type "tuple", data := .seq #[Value.int its.toArray.size (tk1 + 1), .ref lot] } := Heap.get?_push_size _ rfl
    refine Reads.tuple (as := []) hp rfl rfl ?_
    refine ReadsAll.cons (as := []) (bs := []) ?_ (ReadsAll.cons (as := []) (bs := []) (Reads.tuple (as := []) (Heap.get?_push_of_some _ ho) hc hdt (reads_ints r)) .nil)
    have e : ((its.toArray.size : Nat) : Int) = (ns.length : Int) := by rw [List.size_toArray, hlen]
    rw [e]
    exact .int _ _
  · decide
/-- the key of an item: its length, itself -/
def kRank (g : V → List Int) : V → PyData := fun x => .tuple [.int (g x).length, .tuple ((g x).map .int)]
def rSortedRank (K : PySem.W.Frag) (f : Addr) : List V → List V → Hp → VK → Prop := fun vs zs H Q => ∃ (a : Addr) (xs : List V) (g : V → List Int), vs = [.ref a] ∧ zs = [.ref f] ∧ SqL K H a xs ∧ (∀ x ∈ xs, ∃ t, x = .ref t ∧ H t = some (.tup ((g x).map .int)) ∧ (g x).length ≤ 1000) ∧
  ∀ p, H p = none → Q (.ref p) (upd H p (.lst (xs.mergeSort (dataLe false (kRank g)))))
theorem cr_sortedRank {X : Cx} {f : Addr} {fd : FuncData} {j : Nat} (F : L2.Fun X.K "rank_of" "rank_of" sRank f fd) (len : X.mg "len" = none) (hr : Room j X.A) : CallRK X (.builtin "sorted") [Str.ofString "key"] (rSortedRank X.K f) := by
  intro pins s σ H xs zs us ws Q I r1 r2 h
  obtain ⟨a, ys, g, rfl, rfl, hs, hg, q⟩ := h
  obtain ⟨u, rfl, ru⟩ := vals1 r1
  obtain ⟨v, rfl, rv⟩ := vals1 r2
  cases ru
  cases rv
  show wpAny _ _ (call (.builtin "sorted") [.ref a] [(Str.ofString "key", .ref f)]) _ _ s
  refine sorted_key_run (k := kRank g) I hs ?_ ?_ (fun x hx => ?_) (fun v x rx hx h tk kp => ?_) q
  · intro d hd d' hd'
    obtain ⟨x, _, rfl⟩ := List.mem_map.mp hd
    obtain ⟨y, _, rfl⟩ := List.mem_map.mp hd'
    simp [kRank, PySem.W.alike, PySem.W.alikeAll, PySem.W.alike_ints]
  · refine .inl fun d hd => ?_
    obtain ⟨x, _, rfl⟩ := List.mem_map.mp hd
    exact ⟨_, _, rfl⟩
  · have e : (kRank g x).depth = 2 := by simp [kRank, PyData.depth, PyData.depthAll, PySem.W.depth_ints]
    rw [e]
    have := hr.un
    omega
  · obtain ⟨t, rfl, ht, hz⟩ := hg x hx
    cases rx
    obtain ⟨z, its, rits, o, ho, hc, n, hdt⟩ := I.hok t _ ht
    refine wpAny_mono (rank_call (A := X.A.in1.in1) (s := { s with heap := h, toks := tk }) F I.mod len (fun b o e => kp b o (I.bk b o e)) ?_ ⟨o, kp _ _ ho, hc, n, hdt⟩ rits hz) (fun v s' e => e) fun _ _ e => e
    have := hr.dp
    show X.A.depth < _
    omega
end Ky
end

section
set_option Elab.async false
set_option linter.all false
set_option maxRecDepth 100000
set_option maxHeartbeats 2000000
namespace Ky
open PySem PySem.Spec PyProof.Rows L2 LamX
open PySem.W (KeyPure dataLe dataLt AllAlike Sortable EachIs)
/-! sorted(e, key=lambda pair: pair[0]), the items' first parts texts -/
def tSortedLam (T : List (Addr × Str)) (t : TA) : TE := fun σ H Q => t σ H fun vs H1 => ∃ (a : Addr) (xs : List V) (g : V → Str), vs = [.ref a] ∧ Tabs T H1 ∧ H1 a = some (.lst xs) ∧ (∀ x ∈ xs, ∃ t r, x = .ref t ∧ H1 t = some (.tup (.str (g x) :: r))) ∧
  ∀ H2, ExtN H1 H2 → Tabs T H2 → ∀ p, H2 p = none → Q (.ref p) (upd H2 p (.lst (xs.mergeSort (dataLe false fun x => .str (g x)))))
/-- pair[0], over the heap itself -/
theorem lam0_call {P : Program} {w : World} {base : Heap} {f c' t L0 : Addr} {A : Around} {s : Shared} {E : Value → Shared → Prop} {q x : Str} {params : Arguments} {scope : Scope} {cl : List (Str × Addr)} {pm ctv : Value} {p1 p2 p3 : Pos} {j : Nat} {y : Str} {r : List V} {its : List Value}
    (hf : s.heap.get? f = some (PySem.W.kla_obj "<lambda>" q params (.Subscript (.Name x p1) (.Constant (.int 0) j p2) p3) scope cl pm c' ctv)) (hc' : ∃ (oc : Obj) (vs : Array Value) (t : Tok), s.heap.get? c' = some oc ∧ oc.data = .fields vs ∧ vs[1]? = some (.str q t))
    (lim : s.heap.NoLimit) (hd : A.depth < recursionLimit) (hco : scope.isCoroutine = false) (hgen : scope.isGenerator = false) (hk : scope.kind = .function) (hcell : ∀ y ∈ scope.names, y.2 ≠ .cell) (hx : scope.names.lookup x = some .local) (hxd : (x == ("__debug__" : Str)) = false)
    (hb : bindArgs (PySem.W.kla_fn "<lambda>" q params (.Subscript (.Name x p1) (.Constant (.int 0) j p2) p3) scope cl pm (.ref c') ctv) ⟨[.ref t], []⟩ = pure [(x, .ref t)])
    (ht : IsTup s.heap t its.toArray) (rv : Vals (.str y :: r) its) (hz : its.length ≤ sizeLine) :
    wpAny (model P w) A (call (.ref f) [.ref t]) (KeyPure (.str y) s) E s := by
  obtain ⟨oc, vs, tq, hoc, hdc, hvc⟩ := hc'
  refine wpAny_call (PySem.W.kla_callFunE hd hf rfl hco hgen rfl ⟨c', oc, vs, tq, rfl, hoc, hdc, hvc⟩ ?_)
  rw [hb]
  refine wpAny_pure (wpAny_newFunctionEnv hcell (fun z hz => ?_) (fun h1 hns hsb => ⟨lim.fresh _ hsb, ?_⟩) hk)
  · obtain rfl : z = (x, Value.ref t) := List.mem_singleton.mp hz
    exact hx
  · have kp : ∀ b o, s.heap.get? b = some o → h1.get? b = some o := fun b o e => hsb.extBut b o (Nat.ne_of_lt (Heap.lt_size e)) (Heap.get?_push_of_some _ e)
    obtain ⟨o, ho, hcl, n, hdt⟩ := ht
    have ht1 : IsTup h1 t its.toArray := ⟨o, kp _ _ ho, hcl, n, hdt⟩
    have hl : (PySem.W.envX q scope s.heap.objs.size f (.ref c') cl).kindOf x = some .local := hx
    have hv : (fun y : Str => ([(x, Value.ref t)] : List (Str × Value)).reverse.lookup y) x = some (.ref t) := by simp [List.lookup]
    show codeAny _ _ (.expr (.Subscript (.Name x p1) (.Constant (.int 0) j p2) p3) (PySem.W.envX q scope s.heap.objs.size f (.ref c') cl)) _ _
    refine PySem.W.kla_codeExpr ?_
    refine Subscript_ (wpAny_Name (wpAny_loadName_local (v := .ref t) hk hl hns hv ?_) hxd)
    refine wpAny_Constant_int ?_
    cases rv with
    | @cons a u as us r1 r2 =>
      obtain ⟨tk, rfl⟩ := r1
      refine subscriptTail_builtinR (x := .str y tk) ht1.typeIs slot_tuple_getitem.lookup (getItem_tuple (j := 0) ht1 (by decide) (by decide) (by simp [seqIndex?]) (by simp) ⟨rfl, ?_⟩)
      exact ⟨_, _, rfl, kp, .str y tk⟩
section
variable {X : Cx} {e : Expr} {es : List Expr} {t : TA} {p lpos kpos pos p1 p2 p3 : Pos} {x : Str} {j k : Nat} {c P : Addr} {params : Arguments} {scope : Scope} {T : List (Addr × Str)}
theorem pe_sortedLam (hg : Gl X "sorted") (hm : X.mg "sorted" = none) (ha : PA X [e] t) (TB : TabB X.base X.mg c P) (hcode : X.env.code = .ref c) (hmT : (P, X.env.qual ++ "<lambda>") ∈ T) (hu : ∀ p ∈ T, p.1 = P → p.2 = X.env.qual ++ "<lambda>") (hr : Room k X.A)
    (hdef : defaultsOf params X.env = ([], [])) (hfree : ∀ y ∈ scope.names, y.2 = .free → ∃ c, X.env.cells.lookup y.1 = some c) (hco : scope.isCoroutine = false) (hgen : scope.isGenerator = false) (hk : scope.kind = .function) (hcell : ∀ y ∈ scope.names, y.2 ≠ .cell) (hx : scope.names.lookup x = some .local) (hxd : (x == ("__debug__" : Str)) = false)
    (hb : ∀ (q : Str) (cl : List (Str × Addr)) (pm cv ctv u : Value), bindArgs (PySem.W.kla_fn "<lambda>" q params (.Subscript (.Name x p1) (.Constant (.int 0) j p2) p3) scope cl pm cv ctv) ⟨[u], []⟩ = pure [(x, u)])
    (he : backTo pos (starEach [e] X.env) = (false, eval e X.env) :: backTo pos (starEach [] X.env) := by rfl) (hpl : (backTo pos (starEach [e] X.env)).any (·.1) = false := by rfl)
    (hall : (backToKw pos (keywordEach [⟨some "key", .Lambda params (.Subscript (.Name x p1) (.Constant (.int 0) j p2) p3) scope lpos, kpos⟩] X.env)).all (·.1.isSome) = true := by rfl)
    (hnone : (backToKw pos (keywordEach [⟨some "key", .Lambda params (.Subscript (.Name x p1) (.Constant (.int 0) j p2) p3) scope lpos, kpos⟩] X.env)).any (·.1.isNone) = false := by rfl)
    (hks : (backToKw pos (keywordEach [⟨some "key", .Lambda params (.Subscript (.Name x p1) (.Constant (.int 0) j p2) p3) scope lpos, kpos⟩] X.env)).filterMap (·.1) = [Str.ofString "key"] := by rfl) :
    PE X (.Call (.Name "sorted" p) [e] [⟨some "key", .Lambda params (.Subscript (.Name x p1) (.Constant (.int 0) j p2) p3) scope lpos, kpos⟩] pos) (tSortedLam T t) := by
  refine ⟨fun pins s σ H Q I h => ?_⟩
  refine wpAny_Call_Name_kw (ld_blt (u := .builtin "sorted") I hg hm (by decide +kernel) ?_)
  refine PyProof.Rows.callWith_kw (thn (ha.run pos pins s σ H _ I h) fun us s1 ⟨vs, H1, I1, r1, a, xs, g, ev, hT, hL, hg2, q⟩ => ?_) he hpl hall hnone
  subst ev
  obtain ⟨u, eu, ru⟩ := vals1 r1
  subst eu
  cases ru
  rw [hks]
  show wpAny _ _ (evalAll [do let v ← eval (.Lambda params (.Subscript (.Name x p1) (.Constant (.int 0) j p2) p3) scope lpos) X.env; standAt pos; pure v]) _ _ s1
  refine wpAny_evalAll_cons (wpAny_bind (lam_make2 I1 TB hcode hmT hu hT hdef hfree fun f c' pm ctv H2 s2 I2 eN T2 hf hfn hfr hcc => wpAny_bind (wpAny_standAt (wpAny_pure (wpAny_evalAll_nil ?_)))))
  show wpAny _ _ (call (.builtin "sorted") [.ref a] [(Str.ofString "key", .ref f)]) _ _ s2
  have hL2 : H2 a = some (.lst xs) := eN _ _ hL fun ps z => by cases z
  obtain ⟨hcc1, _, _⟩ := I2.hok c' _ hcc
  obtain ⟨oc, vs, tq, hoc, hdc, hvc⟩ := hcc1
  refine sorted_key_run (k := fun x => .str (g x)) I2 (SqL.of hL2) ?_ ?_ (fun x hx => ?_) (fun v x rx hx' h tk kp => ?_) (fun p hp => q H2 eN T2 p hp)
  · intro d hd d' hd'
    obtain ⟨x, _, rfl⟩ := List.mem_map.mp hd
    obtain ⟨y, _, rfl⟩ := List.mem_map.mp hd'
    rfl
  · refine .inr fun d hd => ?_
    obtain ⟨x, _, rfl⟩ := List.mem_map.mp hd
    exact ⟨fun z => (nomatch z), fun _ z => (nomatch z)⟩
  · have e : (PyData.str (g x)).depth = 0 := rfl
    have := hr.un
    show X.A.units + 2 + (PyData.str (g x)).depth < cLine
    rw [e]
    omega
  · obtain ⟨t1, r, rfl, ht⟩ := hg2 x hx'
    have ht2 : H2 t1 = some (.tup (.str (g (.ref t1)) :: r)) := eN _ _ ht fun ps z => by cases z
    cases rx
    obtain ⟨z, its, rits, o, ho, hc, n, hdt⟩ := I2.hok t1 _ ht2
    have hd : X.A.depth < recursionLimit := by have := hr.dp; omega
    refine wpAny_mono (lam0_call (A := X.A.in1.in1) (L0 := f) (base := X.base) (s := { s2 with heap := h, toks := tk }) (kp _ _ hf) ⟨oc, vs, tq, kp _ _ hoc, hdc, hvc⟩ (I2.nolimit.keeps kp) hd hco hgen hk hcell hx hxd (hb _ _ _ _ _ _) ⟨o, kp _ _ ho, hc, n, hdt⟩ rits (by rw [← rits.length]; exact z)) (fun v s' e => e) fun _ _ e => e
end
end Ky
end

section
set_option Elab.async false
set_option linter.all false
set_option maxRecDepth 100000
set_option maxHeartbeats 2000000
namespace Ky
open PySem PySem.Spec PyProof.Rows L2
/-! list(text) -/
def chV (c : Nat) : V := .str ⟨#[c]⟩
theorem vals_of_get : ∀ {xs : List V} {us : List Value}, us.length = xs.length → (∀ (j : Nat) (x : V) (u : Value), xs[j]? = some x → us[j]? = some u → RelV x u) → Vals xs us
  | [], us, hl, _ => by
    cases us with
    | nil => exact .nil
    | cons => cases hl
  | x :: xs, us, hl, h => by
    cases us with
    | nil => cases hl
    | cons u us => exact .cons (h 0 x u rfl rfl) (vals_of_get (by simpa using hl) fun j y v e1 e2 => h (j + 1) y v (by simpa using e1) (by simpa using e2))
section
variable {X : Cx}
theorem call_list_text (hc : X.calm = true) : CallR X (.type "list") (fun xs H Q => ∃ z : Str, xs = [.str z] ∧ z.cps.size ≤ 1000 ∧ ∀ l, H l = none → Q (.ref l) (upd H l (.lst (z.cps.toList.map chV)))) := by
  intro pins s σ H xs us Q I r h
  obtain ⟨z, rfl, hz, q⟩ := h
  obtain ⟨u, rfl, rx⟩ := vals1 r
  obtain ⟨t, rfl⟩ := rx
  have hz' : z.cps.size ≤ sizeLine := Nat.le_trans hz (by rw [sizeLine_eq]; omega)
  refine call_list_str (I.ok.hd hc) z t (fun h' tk acc c' kp e hi => ?_) hz'
  obtain ⟨h1, h2⟩ := hi
  have hv : Vals (z.cps.toList.map chV) acc.toList := by
    refine vals_of_get (by simp [h1]) fun j x u e1 e2 => ?_
    rw [Array.getElem?_toList] at e2
    obtain ⟨c, t', ec, eu⟩ := h2 j u e2
    subst eu
    rw [List.getElem?_map, Array.getElem?_toList, ec] at e1
    obtain rfl : chV c = x := Option.some.inj e1
    exact ⟨t', rfl⟩
  refine ⟨.ref s.heap.objs.size, _, I.laid (t' := tk) kp (Nat.le_refl _) (show ObjOk X.prog X.w _ h' _ (.lst (z.cps.toList.map chV)) from ⟨by simpa using hz', acc.toList, c', hv, by simpa using e⟩), rfl, q _ (I.hok.fresh (Nat.le_refl _))⟩
/-! tuple(list), the new tuple told as its very object -/
theorem call_tupleF : CallR X (.type "tuple") (fun xs H Q => ∃ p ys, xs = [.ref p] ∧ SqL X.K H p ys ∧ ∀ (l : Addr) (o : Obj), H l = none → o.dict = none → Q (.ref l) (upd H l (.frz o (.tup ys)))) := by
  intro pins s σ H xs us Q I r h
  obtain ⟨p, ys, rfl, hq, q⟩ := h
  obtain ⟨u, rfl, rx⟩ := vals1 r
  cases rx
  obtain ⟨its, r', pl, hz⟩ := I.list hq
  have hlen := r'.length
  refine call_tuple_list pl.isList (fun h' kp => ?_) (by simp only [List.size_toArray] <;> omega)
  have I1 : Inv X pins σ H { s with heap := h' } := I.kept (t' := s.toks) kp
  have I2 : Inv X pins σ (upd H h'.objs.size (.frz { cls := .type "tuple", data := .seq its.toArray } (.tup ys))) { s with heap := h'.push { cls := .type "tuple", data := .seq its.toArray } } :=
    I1.laid (t' := s.toks) (fun b o e => Heap.get?_push_of_some _ e) (Nat.le_refl _) (show ObjOk X.prog X.w _ _ _ (.frz { cls := .type "tuple", data := .seq its.toArray } (.tup ys)) from ⟨Heap.get?_push_size _ rfl, hz, its, r', IsTup.new _ _⟩)
  exact ⟨.ref h'.objs.size, _, I2, rfl, q _ _ (I1.hok.fresh (Nat.le_refl _)) rfl⟩
/-! dict(tuple of pairs) -/
theorem pairs_of2 {pins : List (Addr × Obj)} {σ : St} {H : Hp} {s : Shared} (I : Inv X pins σ H s) : ∀ {ps : List Addr} {kvs : List (Key × V)}, Paired (fun p kv => SqT X.K H p [kV kv.1, kv.2]) ps kvs →
    ∃ (prs : List (Key × Value)) (pv : List (Value × Value)), KV kvs prs ∧ prs.length = ps.length ∧ pv.length = ps.length ∧
      ∀ (j : Nat) (k v : Value), pv[j]? = some (k, v) → ∃ (b : Addr) (y : Key), ps[j]? = some b ∧ IsTup s.heap b #[k, v] ∧ prs[j]? = some (y, v) ∧ keyIs y k = true
  | _, _, .nil => ⟨[], [], .nil, rfl, rfl, fun j k v e => by simp at e⟩
  | _, _, .cons (a := p) (b := kv) h t => by
    obtain ⟨prs, pv, r, hl, hl2, hp⟩ := pairs_of2 I t
    obtain ⟨its, rv, ht, _⟩ := I.tuple h
    obtain ⟨u, y, ei, ru, ry⟩ := vals2 rv
    subst ei
    refine ⟨(kv.1, y) :: prs, (u, y) :: pv, .cons ⟨rfl, ry⟩ r, by rw [List.length_cons, List.length_cons, hl], by rw [List.length_cons, List.length_cons, hl2], fun j k v e => ?_⟩
    cases j with
    | zero =>
      have e' : (u, y) = (k, v) := Option.some.inj e
      cases e'
      exact ⟨p, kv.1, rfl, ht, rfl, kV_is (P := X.prog) (w := X.w) ru⟩
    | succ j =>
      obtain ⟨b, z, e1, e2, e3, e4⟩ := hp j k v (by simpa using e)
      exact ⟨b, z, by simpa using e1, e2, by simpa using e3, e4⟩
theorem call_dictT (hcalm : X.calm = true) : CallR X (.type "dict") (fun xs H Q => ∃ (a : Addr) (o : Obj) (ps : List Addr) (kvs : List (Key × V)), xs = [.ref a] ∧ H a = some (.frz o (.tup (ps.map V.ref))) ∧ o.dict = none ∧ Paired (fun p kv => SqT X.K H p [kV kv.1, kv.2]) ps kvs ∧
    ∀ p, H p = none → Q (.ref p) (upd H p (.dK (mergeK [] kvs)))) := by
  intro pins s σ H xs us Q I r q
  obtain ⟨a, o, ps, kvs, ex, hq, hod, hp, q⟩ := q
  subst ex
  obtain ⟨u, eu, rx⟩ := vals1 r
  subst eu
  cases rx
  obtain ⟨ho, hz, its, rv, o', ho', hc, n, hdat⟩ := I.hok a _ hq
  obtain rfl : o = o' := Option.some.inj (ho.symm.trans ho')
  have ei := refs_at rv
  subst ei
  rw [List.length_map] at hz
  obtain ⟨prs, pv, rel, hl, hl2, hpr⟩ := pairs_of2 I hp
  have item : ∀ (j : Nat) (k v : Value), pv[j]? = some (k, v) → (ps.map Value.ref).toArray[j]? = some (.ref (ps.getD j 0)) ∧ PairAt s.heap (ps.getD j 0) k v := fun j k v e => by
    obtain ⟨b, y, e1, e2, e3, e4⟩ := hpr j k v e
    have eb : ps.getD j 0 = b := by simp [List.getD, e1]
    rw [eb]
    exact ⟨by simp [e1], .inl e2⟩
  refine PySem.call_dict_pairs (knd := mixKind X.prog X.w) (kvs := prs) (PairArg.tuple a (ps.map Value.ref).toArray (fun j => ps.getD j 0) pv) (I.ok.hd hcalm) ⟨⟨o, n, ho, hc, hod, hdat⟩, by simp [hl2], item⟩ ⟨by rw [hl, hl2], fun i key v e => ?_⟩ (by rw [hl2]; exact hz) fun h' tk hd' k => ?_
  · obtain ⟨b, y, e1, e2, e3, e4⟩ := hpr i key v e
    exact ⟨y, e3, e4⟩
  · have hm : (s.heap.objs.size == sysModules) = false := beq_eq_false_iff_ne.mpr (Nat.ne_of_gt I.big)
    have hlen : (mergeK [] kvs).length ≤ sizeLine := by
      refine Nat.le_trans (length_mergeK kvs []) ?_
      rw [List.length_nil, Nat.zero_add, rel.length, hl]
      exact hz
    exact ⟨.ref s.heap.objs.size, upd H s.heap.objs.size (.dK (mergeK [] kvs)), I.laid (t' := tk) (fun b o e => k b o (by simp) e) (Nat.le_refl _) (show ObjOk X.prog X.w _ _ _ (.dK (mergeK [] kvs)) from ⟨hlen, hm, merged [] prs, KV.merge rel .nil, hd'⟩), rfl, q _ (I.hok.fresh (Nat.le_refl _))⟩
end
/-! d.get(k, x), d a written dict with text keys -/
def tKGet2 (K : PySem.W.Frag) (w : World) (td ty tx : TE) : TE := fun σ H Q => td σ H fun x H1 => ∃ (a : Addr) (es : Array DictEntry) (n : Nat), x = .ref a ∧ KDict K w a es n ∧ ty σ H1 fun y H2 => tx σ H2 fun z H3 => ∃ (k : Str) (r : Option Value), y = .str k ∧ PySem.W.nsIn K a k = some r ∧ (∀ u, r = some u → ∃ v, RelV v u ∧ Q v H3) ∧ (r = none → Q z H3)
section
variable {X : Cx} {o e f : Expr} {apos cpos : Pos} {td ty tx : TE}
theorem pe_kget2 (ho : PE X o td) (he : PE X e ty) (hf : PE X f tx) (m : M2 X o "get" apos e f cpos) : PE X (.Call (.Attribute o "get" apos) [e, f] [] cpos) (tKGet2 X.K X.w td ty tx) := by
  refine ⟨fun pins s σ H Q I h => ?_⟩
  refine wpAny_Call_method m.base m.few m.line PySem.F.plainAttrs_dict PySem.F.slot_dict_get PySem.F.type_dict_get (thn (ho.run pins s σ H _ I h) fun u s1 ⟨x, H1, I1, rx, a, es, n, ex, D, q1⟩ => ?_)
  subst ex
  obtain rfl : u = Value.ref a := rx
  refine ⟨kd_type D I1, fun b e => ?_, ?_⟩
  · cases e
    exact ⟨_, I1.kIn _ _ D.at_, rfl⟩
  · rw [m.trees]
    refine Calls.callWith_builtin rfl (Calls.evalArgs_plain (Calls.spliced_cons (thn (he.run pins s1 σ H1 _ I1 q1) fun iv s2 ⟨y, H2, I2, ry, q2⟩ =>
      Calls.spliced_cons (thn (hf.run pins s2 σ H2 _ I2 q2) fun fv s3 ⟨z, H3, I3, rz, k, r, ey, hn, q3, q4⟩ => Calls.spliced_nil ?_))))
    subst ey
    obtain ⟨t, rfl⟩ := ry
    have hm := PySem.W.mapOf_K (prog := X.prog) (w := X.w) I3.kIn D.at_ D.lit
    have hfk := PySem.W.find_K D.at_ hn
    refine call_meetsIn PySem.F.slot_dict_get hm.typeIs PySem.F.entry_dict_get (PySem.F.args_dict_get_3 _ _ _) (meets_dict_get_default (strKind X.prog X.w) a (strKind_is X.prog X.w k t) D.low fv) ⟨_, hm, ?_⟩
    rw [hfk]
    cases r with
    | none => exact ⟨z, H3, I3.tok _, rz, q4 rfl⟩
    | some u0 =>
      obtain ⟨v, rv, q⟩ := q3 u0 rfl
      exact ⟨v, H3, I3.tok _, rv, q⟩
end
/-! C(e, ..), the class in a slot -/
def tMakeL (i : Nat) (C : Addr) (sp : Sp) (E : XK) (t : TA) : TE := fun σ H Q => σ[i]? = some (some (.ref C)) ∧ tMake C sp [] E t σ H Q
section
variable {X : Cx} {CX : CXT} {k i : Nat} {f C : Addr} {fd : FuncData} {ps : List Str} {sp : Sp} {E : XK} {x : Str} {p pos : Pos} {e : Expr} {es : List Expr} {t : TA}
theorem pe_makeL (M : Mk X.K C f) (F : FnOk X.prog X.w X.K X.mg X.base CX k f fd ps sp) (hr : Room (k + 1) X.A) (hN : X.N[i]? = some x) (hv : Vis X.env.scope x) (hb : Binds X.K fd ps []) (hx : Passes CX X E) (ha : PA X (e :: es) t)
    (hdb : (x == ("__debug__" : Str)) = false := by decide) (hcd : (x == ("__classdict__" : Str)) = false := by decide)
    (he : starEach (e :: es) X.env = (false, eval e X.env) :: starEach es X.env := by rfl) (hpl : (backTo pos (starEach es X.env)).any (·.1) = false := by rfl) : PE X (.Call (.Name x p) (e :: es) [] pos) (tMakeL i C sp E t) := by
  refine ⟨fun pins s σ H Q I h => ?_⟩
  obtain ⟨hs, ht⟩ := h
  refine wpAny_Call_Name_kw (thn ((pe_var (pos := p) hN hv hdb hcd).run pins s σ H (fun v H1 => v = .ref C ∧ H1 = H) I ⟨.ref C, hs, rfl, rfl⟩) fun u s1 ⟨v, H1, I1, r1, q1⟩ => ?_)
  obtain ⟨rfl, rfl⟩ := q1
  cases r1
  refine PySem.W.callWith_K (h₀ := X.base) I.ok.mod.kin M.kp (thn (ha.run pos pins s1 σ _ _ I1 ht) fun us s2 ⟨vs, H2, I2, r, q⟩ => ⟨I2.kIn, ?_⟩) he hpl
  exact run_make M F hr hb .nil hx I2 r q
end
end Ky
end

section
set_option Elab.async false
set_option linter.all false
set_option maxRecDepth 100000
set_option maxHeartbeats 2000000
namespace Ky
open PySem PySem.Spec PyProof.Rows L2 LamX
theorem scEnded : FnScope ["_law_act", "_law_told", "e"] ["_law_act"] (defScope sEnded) := ⟨rfl, rfl, rfl, by decide +kernel, rfl, by decide +kernel, by decide +kernel⟩
/-- the four exceptions that _law_ended tells apart -/
structure ExT (K : PySem.W.Frag) (mg : Str → Option Value) (CB CU CI CN : Addr) : Prop where
  gB : mg "Broken" = some (.ref CB)
  gU : mg "UnknownName" = some (.ref CU)
  gI : mg "InUse" = some (.ref CI)
  gN : mg "NothingToUndo" = some (.ref CN)
  xB : XfC K CB
  xU : XfC K CU
  xI : XfC K CI
  nB : PySem.W.findIn K (.ref CB) "index" = some none
  nS : PySem.W.findIn K (.ref CB) "shown" = some none
  nU : PySem.W.findIn K (.ref CU) "given" = some none
  nI : PySem.W.findIn K (.ref CI) "index" = some none
  bb : PySem.W.exmOne K (.ref CB) (.ref CB) = some true
  ub : PySem.W.exmOne K (.ref CU) (.ref CB) = some false
  uu : PySem.W.exmOne K (.ref CU) (.ref CU) = some true
  ib : PySem.W.exmOne K (.ref CI) (.ref CB) = some false
  iu : PySem.W.exmOne K (.ref CI) (.ref CU) = some false
  ii : PySem.W.exmOne K (.ref CI) (.ref CI) = some true
  nb : PySem.W.exmOne K (.ref CN) (.ref CB) = some false
  nu : PySem.W.exmOne K (.ref CN) (.ref CU) = some false
  ni : PySem.W.exmOne K (.ref CN) (.ref CI) = some false
  nn : PySem.W.exmOne K (.ref CN) (.ref CN) = some true
def EEnd (CB CU CI CN : Addr) (Q : VK) : XK := fun cls d H' =>
  (cls = .ref CB ∧ ∃ (dd : Addr) (fs : List (Str × V)) (i s : V), d = some dd ∧ H' dd = some (.xd fs) ∧ fs.lookup ("index" : Str) = some i ∧ fs.lookup ("shown" : Str) = some s ∧ ∀ p, H' p = none → Q (.ref p) (upd H' p (.lst [.str "broken", i, s]))) ∨
  (cls = .ref CU ∧ ∃ (dd : Addr) (fs : List (Str × V)) (g : V), d = some dd ∧ H' dd = some (.xd fs) ∧ fs.lookup ("given" : Str) = some g ∧ ∀ p, H' p = none → Q (.ref p) (upd H' p (.lst [.str "unknown", g]))) ∨
  (cls = .ref CI ∧ ∃ (dd : Addr) (fs : List (Str × V)) (i : V), d = some dd ∧ H' dd = some (.xd fs) ∧ fs.lookup ("index" : Str) = some i ∧ ∀ p, H' p = none → Q (.ref p) (upd H' p (.lst [.str "in use", i]))) ∨
  (cls = .ref CN ∧ ∀ p, H' p = none → Q (.ref p) (upd H' p (.lst [.str "nothing"])))
/-- what _law_ended makes of its lambda's reading -/
def TTe (CB CU CI CN : Addr) : (XK → Hp → VK → Prop) → Hp → VK → Prop := fun tl H Q => tl (EEnd CB CU CI CN Q) H (fun v H' => ∀ p, H' p = none → Q (.ref p) (upd H' p (.lst [.str "told", v])))
theorem ended_gives {X : Cx} {CB CU CI CN g : Addr} {cdg : Value} {q : Str} (T : ExT X.K X.mg CB CU CI CN) :
    GivesTo X ["_law_act", "_law_told", "e"] "_law_ended" (defScope sEnded) g cdg (defBody sEnded) "_law_act" q (TTe CB CU CI CN) := by
  intro f c' s H Q tl act hc h
  refine ⟨_, pss_cons (ps_try_mix (X := (cxOf C8.CX0 X.prog X.w X.K X.mg X.base ["_law_act", "_law_told", "e"] "_law_ended" (defScope sEnded) g cdg X.A X.stack s H C8.E0).nox)
      (tb := fun W D σ H => ∃ Ech : XK, (∀ cls d σ' H', Ech cls d H' → σ'.length = 3 → W cls d σ' H') ∧ σ[0]? = some (some (.ref f)) ∧ H c' = some (CodeO c' q) ∧ tl Ech H (fun v H' => D.nx (σ.set 1 (some v)) H'))
      rfl rfl LamX.takes0 (fun W pn xe tk _ => ?_)
      (.consAs (i := 2) (c := .ref CB) scEnded.nd rfl rfl ⟨by rfl, by decide, .inl T.gB⟩ (fun a oe cls d pn hz hf => pss_one (ps_ret (pe_lst (pa_cons pe_str (pa_cons (pe_xf T.xB T.nB hz hf (pv 2)) (pa_cons (pe_xf T.xB T.nS hz hf (pv 2)) pa_nil))))))
      (.consAs (i := 2) (c := .ref CU) scEnded.nd rfl rfl ⟨by rfl, by decide, .inl T.gU⟩ (fun a oe cls d pn hz hf => pss_one (ps_ret (pe_lst (pa_cons pe_str (pa_cons (pe_xf T.xU T.nU hz hf (pv 2)) pa_nil)))))
      (.consAs (i := 2) (c := .ref CI) scEnded.nd rfl rfl ⟨by rfl, by decide, .inl T.gI⟩ (fun a oe cls d pn hz hf => pss_one (ps_ret (pe_lst (pa_cons pe_str (pa_cons (pe_xf T.xI T.nI hz hf (pv 2)) pa_nil)))))
      (.cons (c := .ref CN) ⟨by rfl, by decide, .inl T.gN⟩ (fun a oe cls d pn hz hf => pss_one (ps_ret (pe_lst (pa_cons pe_str pa_nil)))) .nil)))))
    (pss_one (ps_ret (pe_lst (pa_cons pe_str (pa_cons (pv 1) pa_nil))))), ?_⟩
  · refine ⟨fun pins s' σ H' D I h' => ?_⟩
    obtain ⟨Ech, hW, h1, h2, h3⟩ := h'
    have tk2 : Takes ((cxOf C8.CX0 X.prog X.w X.K X.mg X.base ["_law_act", "_law_told", "e"] "_law_ended" (defScope sEnded) g cdg X.A X.stack s H C8.E0).tr pn xe) (fun cls d σ H => σ.length = 3 → W cls d σ H) := fun u s' xx => by
      obtain ⟨a, B, sI, pins, σ, H, cls, d, e, I, x1, x2, x3, x4, x5, x6, w⟩ := xx
      exact tk u s' ⟨a, B, sI, pins, σ, H, cls, d, e, I, x1, x2, x3, x4, x5, x6, w I.len⟩
    exact (pss_one (ps_set (i := 1) scEnded.nd rfl (Or.inl rfl) (act _ pn xe Ech _ _ tk2 hW))).run pins s' σ H' D I ⟨h1, h2, h3⟩
  · refine ⟨EEnd CB CU CI CN Q, ?_, rfl, hc, ?_⟩
    · rintro cls d σ' H' hE hl
      have hs2 : ∀ a : Addr, (σ'.set 2 (some (V.ref a)))[2]? = some (some (V.ref a)) := fun a => List.getElem?_set_self (by rw [hl]; decide)
      rcases hE with (⟨rfl, dd, fs, i, s, rfl, e1, e2, e3, q⟩ | ⟨rfl, dd, fs, i, rfl, e1, e2, q⟩ | ⟨rfl, dd, fs, i, rfl, e1, e2, q⟩ | ⟨rfl, q⟩)
      · refine ⟨true, T.bb, fun _ a ha => ?_, fun z => nomatch z⟩
        exact ⟨.ref a, hs2 a, rfl, rfl, dd, fs, i, rfl, e1, e2, .ref a, hs2 a, rfl, rfl, dd, fs, s, rfl, e1, e3, (by show 3 ≤ sizeLine; decide), fun p hp => q p hp⟩
      · refine ⟨false, T.ub, (fun z => nomatch z), fun _ => ⟨true, T.uu, fun _ a ha => ?_, fun z => nomatch z⟩⟩
        exact ⟨.ref a, hs2 a, rfl, rfl, dd, fs, i, rfl, e1, e2, (by show 2 ≤ sizeLine; decide), fun p hp => q p hp⟩
      · refine ⟨false, T.ib, (fun z => nomatch z), fun _ => ⟨false, T.iu, (fun z => nomatch z), fun _ => ⟨true, T.ii, fun _ a ha => ?_, fun z => nomatch z⟩⟩⟩
        exact ⟨.ref a, hs2 a, rfl, rfl, dd, fs, i, rfl, e1, e2, (by show 2 ≤ sizeLine; decide), fun p hp => q p hp⟩
      · refine ⟨false, T.nb, (fun z => nomatch z), fun _ => ⟨false, T.nu, (fun z => nomatch z), fun _ => ⟨false, T.ni, (fun z => nomatch z), fun _ => ⟨true, T.nn, fun _ a ha => ?_, fun z => nomatch z⟩⟩⟩⟩
        exact ⟨(by show 1 ≤ sizeLine; decide), fun p hp => q p hp⟩
    · refine Eq.mpr (congrArg (tl (EEnd CB CU CI CN Q) H) (funext fun v => funext fun H' => propext ⟨fun z => ?_, fun z => ?_⟩)) h
      · obtain ⟨v', e, _, z⟩ := z
        cases e
        exact z
      · exact ⟨v, rfl, (by show 2 ≤ sizeLine; decide), z⟩
end Ky
end

section
set_option Elab.async false
set_option linter.all false
set_option maxRecDepth 100000
set_option maxHeartbeats 2000000
namespace Ky
open PySem PySem.Spec PyProof.Rows L2
/-! tests whose answer is known -/
theorem ifY {c : Bool} {A B : Prop} (h : c = true) (a : A) : if c = true then A else B := by
  rw [if_pos h]
  exact a
theorem ifN {c : Bool} {A B : Prop} (h : c = false) (b : B) : if c = true then A else B := by
  rw [h, if_neg Bool.false_ne_true]
  exact b
/-! heaps -/
theorem same_new {H : Hp} {p : Addr} {o : HO} (h : H p = none) : Same H (upd H p o) := fun b u e => by
  rw [upd_ne (ne_of_none e h)]
  exact e
theorem _root_.L2.Same.new {H H' : Hp} {p : Addr} {o : HO} (s : Same H H') (h : H' p = none) : Same H (upd H' p o) := s.trans (same_new h)
/-- an object that H does not know may change -/
theorem _root_.L2.Same.mut {H H' : Hp} {p : Addr} {o : HO} (s : Same H H') (h : H p = none) : Same H (upd H' p o) := fun b u e => by
  rw [upd_ne (ne_of_none e h)]
  exact s b u e
theorem _root_.L2.Same.tup {K : PySem.W.Frag} {H H' : Hp} {a : Addr} {xs : List V} (s : Same H H') (h : SqT K H a xs) : SqT K H' a xs := by
  rcases h with (h | ⟨o, h⟩) | h
  · exact .inl (.inl (s _ _ h))
  · exact .inl (.inr ⟨o, s _ _ h⟩)
  · exact .inr h
theorem _root_.L2.Same.dl {H H' : Hp} (s : Same H H') (p : Addr) : Same (L2.del H p) (L2.del H' p) := fun b u e => by
  by_cases hb : b = p
  · rw [hb, del_same] at e
    cases e
  · rw [del_ne hb] at e ⊢
    exact s b u e
theorem del_upd {H : Hp} {p : Addr} {o : HO} : L2.del (upd H p o) p = L2.del H p := by
  funext b
  by_cases hb : b = p
  · rw [hb, del_same, del_same]
  · rw [del_ne hb, del_ne hb, upd_ne hb]
theorem same_del {H : Hp} {p : Addr} : Same (L2.del H p) H := fun b u e => by
  by_cases hb : b = p
  · rw [hb, del_same] at e
    cases e
  · rw [del_ne hb] at e
    exact e
theorem del_of {H H' : Hp} {p : Addr} (s : Same H H') (h : H p = none) : Same H (L2.del H' p) := fun b u e => by
  rw [del_ne (ne_of_none e h)]
  exact s b u e
theorem lt_line {n : Nat} (h : n ≤ 100000) : n < sizeLine := by
  rw [sizeLine_eq]
  omega
theorem le_line {n : Nat} (h : n ≤ 100000) : n ≤ sizeLine := Nat.le_of_lt (lt_line h)
theorem take_snoc {α : Type} {l : List α} {i : Nat} {x : α} (h : l[i]? = some x) : l.take (i + 1) = l.take i ++ [x] := by
  rw [List.take_add_one, h]
  rfl
theorem paired_snoc {α β : Type} {F : α → β → Prop} : ∀ {l : List α} {m : List β} {x : α} {y : β}, Paired F l m → F x y → Paired F (l ++ [x]) (m ++ [y])
  | _, _, _, _, .nil, h => .cons h .nil
  | _, _, _, _, .cons a b, h => .cons a (paired_snoc b h)
theorem paired_mono {α β : Type} {F G : α → β → Prop} : ∀ {l : List α} {m : List β}, Paired F l m → (∀ x y, x ∈ l → F x y → G x y) → Paired G l m
  | _, _, .nil, _ => .nil
  | _, _, .cons a b, h => .cons (h _ _ List.mem_cons_self a) (paired_mono b fun x y hx => h x y (List.mem_cons_of_mem _ hx))
theorem paired_len {α β : Type} {F : α → β → Prop} {l : List α} {m : List β} (p : Paired F l m) : l.length = m.length := Paired.length p
/-- a comprehension, item by item: R x y, what x gives; f: whether it does -/
theorem lcF {J : It} {xs : List V} {G : Hp → Prop} (w : Walk J xs.length G (YAt xs)) {g : TG} {tt : TT} {te : TE} {vs : List Nat} {σ : St} {H1 : Hp} {D : Addr} {Qd : Hp → Prop} (f : V → Bool) (R : V → V → Hp → Prop)
    (hR : ∀ x y H H', R x y H → Same H H' → R x y H') (hG : ∀ H, Same H1 H → G H) (hD : H1 D = none) (hz : xs.length ≤ 10000)
    (hs : ∀ (i : Nat) (x : V) (H : Hp) (Ny : V → Hp → Prop) (Nn : Hp → Prop), xs[i]? = some x → Same H1 H → (∃ acc, H D = some (.lst acc)) → (f x = true → ∀ y H4, Same H H4 → R x y (L2.del H4 D) → Ny y H4) → (f x = false → ∀ H4, Same H H4 → Nn H4) →
      g x (wipe σ vs) H fun σ2 H2 => wipe σ2 vs = wipe σ vs ∧ tt σ2 H2 fun b H3 => if b = true then te σ2 H3 Ny else Nn H3)
    (hd : ∀ H acc, Same H1 H → H D = some (.lst acc) → Paired (fun x y => R x y (L2.del H D)) (xs.filter f) acc → Qd H) :
    ∃ W : Nat → Nat → Hp → Prop, (∃ m, W 0 m (upd H1 D (.lst []))) ∧ ∀ i m H, W i m H →
      (J.stop i H ∧ Qd H) ∨ (J.go i H ∧ ∃ Nx : Hp → Prop, (∀ H', Nx H' → ∃ m', m' < m ∧ W (i + 1) m' H') ∧ ∀ x H', J.yld i H x H' → g x (wipe σ vs) H' fun σ2 H2 => wipe σ2 vs = wipe σ vs ∧ tt σ2 H2 fun b H3 =>
        if b = true then te σ2 H3 fun y H4 => ∃ acc, H4 D = some (.lst acc) ∧ acc.length < sizeLine ∧ Nx (upd H4 D (.lst (acc ++ [y]))) else Nx H3) := by
  refine lc_it w (fun i H => Same H1 H ∧ ∃ acc, H D = some (.lst acc) ∧ Paired (fun x y => R x y (L2.del H D)) ((xs.take i).filter f) acc) ⟨same_new hD, [], upd_same, .nil⟩ (fun i H _ p => hG H p.1) ?_ ?_
  · rintro i x H H' hi ⟨s0, acc, hacc, pr⟩ ⟨rfl, hx⟩
    have hl : acc.length ≤ i := by
      have h1 := paired_len pr
      have h2 : ((xs.take i).filter f).length ≤ (xs.take i).length := List.length_filter_le _ _
      have h3 : (xs.take i).length ≤ i := by simp [Nat.min_le_left]
      omega
    refine hs i x H' _ _ hx s0 ⟨acc, hacc⟩ (fun hf y H4 s4 r => ?_) (fun hf H4 s4 => ?_)
    · have h4 : H4 D = some (.lst acc) := s4 _ _ hacc
      refine ⟨acc, h4, lt_line (by omega), (s0.trans s4).mut hD, acc ++ [y], upd_same, ?_⟩
      rw [take_snoc hx, List.filter_append, del_upd]
      have e : ([x].filter f) = [x] := by simp [hf]
      rw [e]
      exact paired_snoc (paired_mono pr fun x y _ r => hR x y _ _ r (s4.dl D)) r
    · refine ⟨s0.trans s4, acc, s4 _ _ hacc, ?_⟩
      rw [take_snoc hx, List.filter_append]
      have e : ([x].filter f) = [] := by simp [hf]
      rw [e, List.append_nil]
      exact paired_mono pr fun x y _ r => hR x y _ _ r (s4.dl D)
  · rintro H ⟨s0, acc, hacc, pr⟩
    rw [List.take_length] at pr
    exact hd H acc s0 hacc pr
/-- .. without a test -/
theorem lcM {J : It} {xs : List V} {G : Hp → Prop} (w : Walk J xs.length G (YAt xs)) {g : TG} {te : TE} {vs : List Nat} {σ : St} {H1 : Hp} {D : Addr} {Qd : Hp → Prop} (R : V → V → Hp → Prop)
    (hR : ∀ x y H H', R x y H → Same H H' → R x y H') (hG : ∀ H, Same H1 H → G H) (hD : H1 D = none) (hz : xs.length ≤ 10000)
    (hs : ∀ (i : Nat) (x : V) (H : Hp) (Ny : V → Hp → Prop), xs[i]? = some x → Same H1 H → (∃ acc, H D = some (.lst acc)) → (∀ y H4, Same H H4 → R x y (L2.del H4 D) → Ny y H4) →
      g x (wipe σ vs) H fun σ2 H2 => wipe σ2 vs = wipe σ vs ∧ te σ2 H2 Ny)
    (hd : ∀ H acc, Same H1 H → H D = some (.lst acc) → Paired (fun x y => R x y (L2.del H D)) xs acc → Qd H) :
    ∃ W : Nat → Nat → Hp → Prop, (∃ m, W 0 m (upd H1 D (.lst []))) ∧ ∀ i m H, W i m H →
      (J.stop i H ∧ Qd H) ∨ (J.go i H ∧ ∃ Nx : Hp → Prop, (∀ H', Nx H' → ∃ m', m' < m ∧ W (i + 1) m' H') ∧ ∀ x H', J.yld i H x H' → g x (wipe σ vs) H' fun σ2 H2 => wipe σ2 vs = wipe σ vs ∧ tYes σ2 H2 fun b H3 =>
        if b = true then te σ2 H3 fun y H4 => ∃ acc, H4 D = some (.lst acc) ∧ acc.length < sizeLine ∧ Nx (upd H4 D (.lst (acc ++ [y]))) else Nx H3) := by
  refine lcF w (fun _ => true) R hR hG hD hz (fun i x H Ny Nn hx s0 ha hy _ => ?_) fun H acc s0 hacc pr => hd H acc s0 hacc ?_
  · exact hs i x H Ny hx s0 ha (hy rfl)
  · have e : xs.filter (fun _ => true) = xs := by simp
    rw [e] at pr
    exact pr
/-- a range as a list of items -/
theorem walk_rng {lo : Int} {n : Nat} : Walk (Itr lo n) ((List.range n).map fun (i : Nat) => V.int (lo + i)).length (fun _ => True) (YAt ((List.range n).map fun (i : Nat) => V.int (lo + i))) := by
  rw [List.length_map, List.length_range]
  exact walk_range.mono (fun _ _ => trivial) fun i H x H' hi _ y => ⟨y.1, by rw [y.2]; simp [hi]⟩
/-- a text's signs as a list of items -/
theorem walk_txt {z : Str} : Walk (Its z) (z.cps.toList.map fun c => V.str ⟨#[c]⟩).length (fun _ => True) (YAt (z.cps.toList.map fun c => V.str ⟨#[c]⟩)) := by
  rw [List.length_map, Array.length_toList]
  refine walk_str.mono (fun _ _ => trivial) fun i H x H' hi _ y => ⟨y.1, ?_⟩
  obtain ⟨_, c, ec, ex⟩ := y
  rw [ex]
  simp [ec]
end Ky
end

section
set_option Elab.async false
set_option linter.all false
set_option maxRecDepth 100000
set_option maxHeartbeats 2000000
namespace Ky
open PySem PySem.Spec PyProof.Rows L2
/-- the built-ins stand -/
structure Bt (mg : Str → Option Value) : Prop where
  isi : mg "isinstance" = none
  int : mg "int" = none
  bool : mg "bool" = none
  str : mg "str" = none
  len : mg "len" = none
  all : mg "all" = none
  tuple : mg "tuple" = none
  list : mg "list" = none
  dict : mg "dict" = none
  range : mg "range" = none
  sorted : mg "sorted" = none
  enum : mg "enumerate" = none
  divmod : mg "divmod" = none
  abs : mg "abs" = none
  max : mg "max" = none
  min : mg "min" = none
def Gv (mg : Str → Option Value) (x : Str) (v : V) : Prop := ∃ u, mg x = some u ∧ RelV v u
/-- the constants -/
structure Cs (mg : Str → Option Value) : Prop where
  letters : Gv mg "LETTERS" (.str sLetters)
  figures : Gv mg "FIGURES" (.str sFigures)
  mostL : Gv mg "MOST_LETTERS" (.int 8)
  mostF : Gv mg "MOST_FIGURES" (.int 60)
  mostR : Gv mg "MOST_ROWS" (.int 5)
  mostN : Gv mg "MOST_NUMBER" (.int (10 ^ 20))
  parted : Gv mg "PARTED" (.str sParted)
theorem cal_mk {P : Program} {w : World} {K : PySem.W.Frag} {mg : Str → Option Value} {base : Heap} {x : Str} {st : Stmt} {f : Addr} {fd : FuncData} {N ps : List Str} {k : Nat} {sp : Sp} (F : L2.Fun K x x st f fd) (hm : mg x = some (.ref f)) (S : FnScope N ps (defScope st))
    (hb : ∀ (kV doc pm : Value) (an : Option Addr) (cdv ct : Value) (us : List Value), us.length = ps.length → bindArgs (PySem.W.fnOf x x (defArgs st) (defBody st) (defScope st) .none kV doc pm an cdv ct) ⟨us, []⟩ = pure (ps.zip us))
    (len : ∀ vs H Q E, sp vs H Q E → vs.length = ps.length)
    (hbody : ∀ (cdv : Value) (A : Around) (outer : List Env) (s : Shared) (H : Hp) (vs : List V) (Q : VK) (E : XK), Room k (A.deeper (envOfC x (defScope st) s.heap.objs.size f cdv)) → sp vs H Q E →
      ∃ t, PSs (cxOf L2.CX0 P w K mg base N x (defScope st) f cdv A outer s H E).nox (defBody st) t ∧ t { nx := fun _ H' => Q .non H', rt := Q } (start N vs) H) : C8.Cal P w K mg base (k + 1) x sp [] :=
  ⟨f, fd, ps, [], F.ok S len hbody, hm, F.kp, F.binds hb, .nil⟩
theorem cal_mono {P : Program} {w : World} {K : PySem.W.Frag} {mg : Str → Option Value} {base : Heap} {x : Str} {k : Nat} {sp sp' : Sp} (c : C8.Cal P w K mg base k x sp []) (h : ∀ vs H Q E, sp' vs H Q E → sp vs H Q E) (hl : True) : True := trivial
section
variable {P : Program} {w : World} {K : PySem.W.Frag} {mg : Str → Option Value} {base : Heap} {f : Addr} {fd : FuncData}
/-! is_integer -/
theorem scIsInt : FnScope ["value"] ["value"] (defScope sIsInt) := ⟨rfl, rfl, rfl, by decide +kernel, rfl, by decide +kernel, by decide +kernel⟩
def spIsInt : Sp := fun vs H Q _ => ∃ i : Int, vs = [.int i] ∧ Q (.bl true) H
theorem ok_isInt (F : L2.Fun K "is_integer" "is_integer" sIsInt f fd) (hm : mg "is_integer" = some (.ref f)) (B : Bt mg) : C8.Cal P w K mg base 1 "is_integer" spIsInt [] := by
  refine cal_mk F hm scIsInt (fun _ _ _ _ _ _ us hl => match us, hl with | [_], _ => rfl) (fun vs H Q E h => ?_) (fun cdv A outer s H vs Q E hr h => ?_)
  · obtain ⟨i, rfl, _⟩ := h
    rfl
  · obtain ⟨i, rfl, q⟩ := h
    refine ⟨_, pss_one (ps_ret (pe_and (pe_callB call_isi (by rfl) B.isi (by decide +kernel) (pa_cons (pv 0) (pa_cons (pe_bltn (v := .ty "int") (by rfl) B.int (by decide +kernel) rfl) pa_nil)))
      (pe_one (pe_not (pe_callB call_isi (by rfl) B.isi (by decide +kernel) (pa_cons (pv 0) (pa_cons (pe_bltn (v := .ty "bool") (by rfl) B.bool (by decide +kernel) rfl) pa_nil))))))), ?_⟩
    refine ⟨_, rfl, _, _, _, _, true, rfl, .ty "int", .base (.int i), kit_ty (by decide +kernel), ?_⟩
    refine ⟨true, rfl, iteT ?_⟩
    exact ⟨_, rfl, _, _, _, _, false, rfl, .ty "bool", .base (.int i), kit_ty (by decide +kernel), false, rfl, q⟩
/-! is_between -/
theorem scBetween : FnScope ["value", "least", "most"] ["value", "least", "most"] (defScope sBetween) := ⟨rfl, rfl, rfl, by decide +kernel, rfl, by decide +kernel, by decide +kernel⟩
def spBetween : Sp := fun vs H Q _ => ∃ v a b : Int, vs = [.int v, .int a, .int b] ∧ a ≤ v ∧ v ≤ b ∧ Q (.bl true) H
theorem ok_between (F : L2.Fun K "is_between" "is_between" sBetween f fd) (hm : mg "is_between" = some (.ref f)) (C1 : C8.Cal P w K mg base 1 "is_integer" spIsInt []) : C8.Cal P w K mg base 2 "is_between" spBetween [] := by
  refine cal_mk F hm scBetween (fun _ _ _ _ _ _ us hl => match us, hl with | [_, _, _], _ => rfl) (fun vs H Q E h => ?_) (fun cdv A outer s H vs Q E hr h => ?_)
  · obtain ⟨v, a, b, rfl, _⟩ := h
    rfl
  · obtain ⟨v, a, b, rfl, h1, h2, q⟩ := h
    refine ⟨_, pss_one (ps_ret (pe_and (C8.pe_c C1 hr (by decide) (by rfl) (pa_cons (pv 0) pa_nil)) (pe_one (pe_chain op_le op_le (pv 1) (pv 0) (pv 2))))), ?_⟩
    refine ⟨_, rfl, v, rfl, true, rfl, iteT ?_⟩
    refine ⟨_, rfl, _, rfl, _, _, rfl, rfl, _, rfl, ?_⟩
    rw [if_pos (decide_eq_true h1)]
    refine ⟨_, rfl, _, _, rfl, rfl, ?_⟩
    show Q (.bl (decide (v ≤ b))) H
    rw [decide_eq_true h2]
    exact q
/-! is_name -/
/-- one to eight small letters -/
def NameOk (z : Str) : Prop := 1 ≤ z.length ∧ z.length ≤ 8 ∧ ∀ c ∈ z.cps.toList, c ∈ sLetters.cps.toList
theorem scIsName : FnScope ["value", "sign"] ["value"] (defScope sIsName) := ⟨rfl, rfl, rfl, by decide +kernel, rfl, by decide +kernel, by decide +kernel⟩
def spIsName : Sp := fun vs H Q _ => ∃ z : Str, vs = [.str z] ∧ NameOk z ∧ ∀ H', Same H H' → Q (.bl true) H'
theorem paired_bl {f : V → Bool} : ∀ {xs ys : List V}, Paired (fun x y => y = .bl (f x)) xs ys → ys = (xs.map f).map V.bl
  | _, _, .nil => rfl
  | _, _, .cons a b => by rw [a, paired_bl b]; rfl
theorem ok_isName (F : L2.Fun K "is_name" "is_name" sIsName f fd) (hm : mg "is_name" = some (.ref f)) (B : Bt mg) (C : Cs mg) : C8.Cal P w K mg base 1 "is_name" spIsName [] := by
  refine cal_mk F hm scIsName (fun _ _ _ _ _ _ us hl => match us, hl with | [_], _ => rfl) (fun vs H Q E h => ?_) (fun cdv A outer s H vs Q E hr h => ?_)
  · obtain ⟨i, rfl, _⟩ := h
    rfl
  · obtain ⟨z, rfl, ⟨n1, n2, n3⟩, q⟩ := h
    refine ⟨_, pss_cons (ps_if (PW.pt (pw_or (pt_not (pt_val (pe_callB call_isi (by rfl) B.isi (by decide +kernel) (pa_cons (pv 0) (pa_cons (pe_bltn (v := .ty "str") (by rfl) B.str (by decide +kernel) rfl) pa_nil)))))
        (pw_or1 (pt_not (pt_chain op_le op_le pe_int (pe_callB call_len_str (by rfl) B.len PySem.boot_len (pa_cons (pv 0) pa_nil)) (C8.pe_gc (by rfl) C.mostL)))))) (pss_one (ps_ret pe_bl)) pss_nil)
      (pss_one (ps_ret (pe_callB (cr_all rfl) (by rfl) B.all (by decide +kernel) (pa_cons
        (pe_lc (own := [("sign", 1)]) (g := gName 1) (tt := tYes) rfl scIsName.nd (pi_str (pv 0)) (blkOk_by (N := ["value", "sign"]) (sc := defScope sIsName) (by decide +kernel)) (fun _ _ _ _ _ => pg_name (i := 1) scIsName.nd rfl (Or.inl rfl)) (fun _ _ _ _ _ => pts_nil)
          (fun _ _ _ _ _ => pe_cmpR op_in_sign (pv 1) (C8.pe_gc (by rfl) C.letters) (by rfl))) pa_nil)))), ?_⟩
    refine ⟨_, rfl, _, _, _, _, true, rfl, .ty "str", .base (.str z), kit_ty (by decide +kernel), true, rfl, iteF ?_⟩
    refine ⟨_, rfl, _, rfl, le_line (by omega), _, _, rfl, rfl, _, rfl, ?_⟩
    rw [if_pos (decide_eq_true (by omega))]
    refine ⟨_, _, rfl, rfl, _, rfl, ?_⟩
    show if (!decide ((z.length : Int) ≤ 8)) = true then _ else _
    rw [decide_eq_true (show (z.length : Int) ≤ 8 by omega)]
    refine iteF ?_
    refine ⟨_, rfl, z, rfl, fun D hD => ?_⟩
    refine lcM walk_txt (fun x y _ => ∃ c : Nat, x = .str ⟨#[c]⟩ ∧ y = .bl (decide (c ∈ sLetters.cps.toList))) (fun _ _ _ _ r _ => r) (fun _ _ => trivial) hD ?_ (fun i x H1 Ny hx s0 _ hy => ?_) (fun H1 acc s0 hacc pr => ?_)
    · rw [List.length_map, Array.length_toList]
      have : z.cps.size = z.length := rfl
      omega
    · rw [List.getElem?_map] at hx
      cases e : z.cps.toList[i]? with
      | none =>
        rw [e] at hx
        cases hx
      | some c =>
        rw [e] at hx
        obtain rfl : V.str ⟨#[c]⟩ = x := Option.some.inj hx
        exact ⟨rfl, _, rfl, c, _, rfl, rfl, hy _ _ (Same.refl _) ⟨c, rfl, rfl⟩⟩
    · have e : acc = (z.cps.toList.map fun c => decide (c ∈ sLetters.cps.toList)).map V.bl := by
        have g : ∀ {l : List Nat} {acc : List V}, Paired (fun x y => ∃ c : Nat, x = V.str ⟨#[c]⟩ ∧ y = V.bl (decide (c ∈ sLetters.cps.toList))) (l.map fun c => V.str ⟨#[c]⟩) acc → acc = (l.map fun c => decide (c ∈ sLetters.cps.toList)).map V.bl := by
          intro l
          induction l with
          | nil =>
            intro acc p
            cases p
            rfl
          | cons c l ih =>
            intro acc p
            cases p with
            | cons a b =>
              obtain ⟨d, e1, e2⟩ := a
              have e3 : c = d := by simpa using e1
              rw [e2, ih b, ← e3]
              rfl
        exact g pr
      refine ⟨D, _, rfl, SqL.of (e ▸ hacc), ?_⟩
      have ha : (z.cps.toList.map fun c => decide (c ∈ sLetters.cps.toList)).all id = true := by
        rw [List.all_eq_true]
        intro b hb
        obtain ⟨c, hc, rfl⟩ := List.mem_map.mp hb
        exact decide_eq_true (n3 c hc)
      rw [ha]
      exact q _ s0
end
end Ky
end

section
set_option Elab.async false
set_option linter.all false
set_option maxRecDepth 100000
set_option maxHeartbeats 2000000
namespace Ky
open PySem PySem.Spec PyProof.Rows L2
section
variable {P : Program} {w : World} {K : PySem.W.Frag} {mg : Str → Option Value} {base : Heap} {f : Addr} {fd : FuncData}
def dg (d : Nat) : Str := ⟨#[48 + d]⟩
def ng (d : Nat) : Str := ⟨#[45, 48 + d]⟩
theorem dg_in : ∀ d, d < 10 → (48 + d) ∈ sFigures.cps.toList := by decide +kernel
theorem dg_val : ∀ d, d < 10 → NumText.digitsVal [48 + d] = d := by decide +kernel
theorem dg_int {d : Nat} (h : d < 10) : intText? (dg d) = some (d : Int) := by
  have e := SX.int_S (a := [48 + d]) (by simp; omega) (by simp) (by simp)
  rw [dg_val d h] at e
  exact e
/-! number_in of one figure -/
theorem scNumIn : FnScope ["word", "most", "sign"] ["word", "most"] (defScope sNumIn) := ⟨rfl, rfl, rfl, by decide +kernel, rfl, by decide +kernel, by decide +kernel⟩
def spNumIn : Sp := fun vs H Q _ => ∃ (d : Nat) (m : Int), vs = [.str (dg d), .int m] ∧ d < 10 ∧ 9 ≤ m ∧ ∀ H', Same H H' → Q (.int d) H'
theorem ok_numIn (F : L2.Fun K "number_in" "number_in" sNumIn f fd) (hm : mg "number_in" = some (.ref f)) (B : Bt mg) (C : Cs mg) : C8.Cal P w K mg base 1 "number_in" spNumIn [] := by
  refine cal_mk F hm scNumIn (fun _ _ _ _ _ _ us hl => match us, hl with | [_, _], _ => rfl) (fun vs H Q E h => ?_) (fun cdv A outer s H vs Q E hr h => ?_)
  · obtain ⟨d, m, rfl, _⟩ := h
    rfl
  · obtain ⟨d, m, rfl, hd, hm9, q⟩ := h
    have hz : (dg d).length = 1 := rfl
    refine ⟨_, pss_cons (ps_if (PW.pt (pw_or (pt_not (pt_chain op_le op_le pe_int (pe_callB call_len_str (by rfl) B.len PySem.boot_len (pa_cons (pv 0) pa_nil)) (C8.pe_gc (by rfl) C.mostF)))
        (pw_or1 (pt_not (pt_val (pe_callB (cr_all rfl) (by rfl) B.all (by decide +kernel) (pa_cons
        (pe_lc (own := [("sign", 2)]) (g := gName 2) (tt := tYes) rfl scNumIn.nd (pi_str (pv 0)) (blkOk_by (N := ["word", "most", "sign"]) (sc := defScope sNumIn) (by decide +kernel)) (fun _ _ _ _ _ => pg_name (i := 2) scNumIn.nd rfl (Or.inl rfl)) (fun _ _ _ _ _ => pts_nil)
          (fun _ _ _ _ _ => pe_cmpR op_in_sign (pv 2) (C8.pe_gc (by rfl) C.figures) (by rfl))) pa_nil))))))) (pss_one (ps_ret pe_non)) pss_nil)
      (pss_cons (ps_if (PW.pt (pw_and (pt_cmpR op_eq (pe_ix ix_str (pv 0) pe_int (fun _ _ => rfl)) pe_str (nomark _)) (pw_and1 (pt_cmpR op_ne (pv 0) pe_str (nomark _))))) (pss_one (ps_ret pe_non)) pss_nil)
      (pss_one (ps_ret (pe_ifExp (pt_cmpR op_le (pe_callTy call_int_str (by rfl) B.int (by decide +kernel) (pa_cons (pv 0) pa_nil)) (pv 1) (nomark _)) (pe_callTy call_int_str (by rfl) B.int (by decide +kernel) (pa_cons (pv 0) pa_nil)) pe_non)))), ?_⟩
    refine ⟨_, rfl, _, rfl, le_line (by omega), _, _, rfl, rfl, _, rfl, ?_⟩
    refine ifY (decide_eq_true (by omega)) ?_
    refine ⟨_, _, rfl, rfl, _, rfl, ?_⟩
    refine iteF ?_
    refine ⟨_, rfl, dg d, rfl, fun D hD => ?_⟩
    refine lcM walk_txt (fun x y _ => ∃ c : Nat, x = .str ⟨#[c]⟩ ∧ y = .bl (decide (c ∈ sFigures.cps.toList))) (fun _ _ _ _ r _ => r) (fun _ _ => trivial) hD (by show 1 ≤ 10000; decide) (fun i x H1 Ny hx s0 _ hy => ?_) (fun H1 acc s0 hacc pr => ?_)
    · have e : x = .str ⟨#[48 + d]⟩ := by
        have q := List.mem_of_getElem? hx
        have e2 : (dg d).cps.toList = [48 + d] := rfl
        rw [e2] at q
        simpa using q
      subst e
      exact ⟨rfl, _, rfl, 48 + d, _, rfl, rfl, hy _ _ (Same.refl _) ⟨48 + d, rfl, rfl⟩⟩
    · have e : acc = [true].map V.bl := by
        have e2 : (dg d).cps.toList = [48 + d] := rfl
        rw [e2] at pr
        cases pr with
        | cons a b =>
          cases b
          obtain ⟨c, e1, e2⟩ := a
          have e3 : 48 + d = c := by simpa using e1
          rw [e2, ← e3, decide_eq_true (dg_in d hd)]
          rfl
      refine ⟨D, _, rfl, SqL.of (e ▸ hacc), true, rfl, iteF ?_⟩
      -- the second test
      have rest : tRet (tIf (tTest (tOp (rI0 fun i j => V.bl (decide (i ≤ j))) (tCB (fun xs H Q => ∃ a n, xs = [V.str a] ∧ PySem.intText? a = some n ∧ a.length ≤ 640 ∧ Q (.int n) H) (tCons (tVar 0) tNil)) (tVar 1))) (tCB (fun xs H Q => ∃ a n, xs = [V.str a] ∧ PySem.intText? a = some n ∧ a.length ≤ 640 ∧ Q (.int n) H) (tCons (tVar 0) tNil)) (tC .non)) { nx := fun _ H' => Q .non H', rt := Q } (start ["word", "most", "sign"] [.str (dg d), .int m]) H1 := by
        refine ⟨_, rfl, _, _, rfl, dg_int hd, (by show 1 ≤ 640; decide), _, rfl, _, _, rfl, rfl, _, rfl, ?_⟩
        refine ifY (decide_eq_true (show (d : Int) ≤ m by omega)) ?_
        exact ⟨_, rfl, _, _, rfl, dg_int hd, (by show 1 ≤ 640; decide), q _ s0⟩
      refine ⟨_, rfl, _, _, 48 + d, rfl, rfl, le_line (by omega), rfl, rfl, _, rfl, ?_⟩
      by_cases h0 : d = 0
      · subst h0
        refine iteT ?_
        exact ⟨_, rfl, rfl, _, rfl, iteF rest⟩
      · have ne : ¬ (V.str (⟨#[48 + d]⟩ : Str) = V.str "0") := fun z => by
          have z2 : (⟨#[48 + d]⟩ : Str) = "0" := by simpa using z
          have z3 : (#[48 + d] : Array Nat) = #[48] := congrArg Str.cps z2
          simp at z3
          exact h0 z3
        exact ifN (decide_eq_false ne) (iteF rest)
end
end Ky
end

section
set_option Elab.async false
set_option linter.all false
set_option maxRecDepth 100000
set_option maxHeartbeats 2000000
namespace Ky
open PySem PySem.Spec PyProof.Rows L2
/-- a word that says a number of one figure -/
def WordInt (z : Str) (i : Int) : Prop := ∃ d : Nat, d < 10 ∧ ((z = dg d ∧ i = d) ∨ (1 ≤ d ∧ z = ng d ∧ i = -d))
theorem cut_dg (d : Nat) : cutS (dg d) none (some 1) = dg d := by
  rw [C8.cutS_slice]
  exact SX.slice_to (a := [48 + d]) (i := 1) (by decide)
theorem cut_ng (d : Nat) : cutS (ng d) none (some 1) = "-" := by
  rw [C8.cutS_slice]
  exact SX.slice_to (a := [45, 48 + d]) (i := 1) (by decide)
theorem cut_ng1 (d : Nat) : cutS (ng d) (some 1) none = dg d := by
  rw [C8.cutS_slice]
  exact SX.slice_from (a := [45, 48 + d]) (i := 1) (by decide)
theorem dg_ne (d : Nat) : ¬ (V.str (dg d) = V.str "-") := fun z => by
  have z2 : dg d = "-" := by simpa using z
  have z3 : (#[48 + d] : Array Nat) = #[45] := congrArg Str.cps z2
  simp at z3
  omega
section
variable {P : Program} {w : World} {K : PySem.W.Frag} {mg : Str → Option Value} {base : Heap} {f : Addr} {fd : FuncData}
/-! signed_in of such a word -/
theorem scSigned : FnScope ["word", "most", "found"] ["word", "most"] (defScope sSigned) := ⟨rfl, rfl, rfl, by decide +kernel, rfl, by decide +kernel, by decide +kernel⟩
def spSigned : Sp := fun vs H Q _ => ∃ (z : Str) (i m : Int), vs = [.str z, .int m] ∧ WordInt z i ∧ 9 ≤ m ∧ ∀ H', Same H H' → Q (.int i) H'
theorem ok_signed (F : L2.Fun K "signed_in" "signed_in" sSigned f fd) (hm : mg "signed_in" = some (.ref f)) (C1 : C8.Cal P w K mg base 1 "number_in" spNumIn []) : C8.Cal P w K mg base 2 "signed_in" spSigned [] := by
  refine cal_mk F hm scSigned (fun _ _ _ _ _ _ us hl => match us, hl with | [_, _], _ => rfl) (fun vs H Q E h => ?_) (fun cdv A outer s H vs Q E hr h => ?_)
  · obtain ⟨d, i, m, rfl, _⟩ := h
    rfl
  · obtain ⟨z, i, m, rfl, ⟨d, hd, hw⟩, hm9, q⟩ := h
    refine ⟨_, pss_cons (ps_set (i := 2) scSigned.nd rfl (Or.inl rfl) (pe_ifExp (pt_cmpR op_eq (pe_slice sl_str (pv 0) po_none (po_some pe_int)) pe_str (nomark _))
        (C8.pe_c C1 hr (by decide) (by rfl) (pa_cons (pe_slice sl_str (pv 0) (po_some pe_int) po_none) (pa_cons (pv 1) pa_nil))) (C8.pe_c C1 hr (by decide) (by rfl) (pa_cons (pv 0) (pa_cons (pv 1) pa_nil)))))
      (pss_cons (ps_if (PW.pt (pw_or (pt_cmpR op_isN (pv 2) pe_non (nomark _)) (pw_or1 (pt_cmpR op_ne (pe_slice sl_str (pv 0) po_none (po_some pe_int)) pe_str (nomark _))))) (pss_one (ps_ret (pv 2))) pss_nil)
      (pss_one (ps_ret (pe_ifExp (pt_cmpR op_gt (pv 2) pe_int (nomark _)) (pe_un un_neg (pv 2)) pe_non)))), ?_⟩
    rcases hw with ⟨rfl, rfl⟩ | ⟨h1, rfl, rfl⟩
    · refine ⟨_, rfl, 1, rfl, _, rfl, (by show 1 ≤ sizeLine; decide), rfl, _, rfl, ?_⟩
      rw [cut_dg]
      refine ifN (decide_eq_false (dg_ne d)) ?_
      refine ⟨_, rfl, _, rfl, d, m, rfl, hd, hm9, fun H1 s1 => ?_⟩
      refine ⟨_, rfl, rfl, _, rfl, ?_⟩
      refine ifN (by simp) ?_
      refine ⟨_, rfl, 1, rfl, _, rfl, (by show 1 ≤ sizeLine; decide), rfl, _, rfl, ?_⟩
      rw [cut_dg]
      refine ifY (by rw [decide_eq_false (dg_ne d)]; rfl) ?_
      exact ⟨_, rfl, q _ s1⟩
    · refine ⟨_, rfl, 1, rfl, _, rfl, (by show 2 ≤ sizeLine; decide), rfl, _, rfl, ?_⟩
      rw [cut_ng]
      refine ifY (decide_eq_true rfl) ?_
      refine ⟨_, rfl, 1, rfl, _, rfl, (by show 2 ≤ sizeLine; decide), ?_⟩
      rw [cut_ng1]
      refine ⟨_, rfl, d, m, rfl, hd, hm9, fun H1 s1 => ?_⟩
      refine ⟨_, rfl, rfl, _, rfl, ?_⟩
      refine ifN (by simp) ?_
      refine ⟨_, rfl, 1, rfl, _, rfl, (by show 2 ≤ sizeLine; decide), rfl, _, rfl, ?_⟩
      rw [cut_ng]
      refine ifN (by rw [decide_eq_true rfl]; rfl) ?_
      refine ⟨_, rfl, _, _, rfl, rfl, _, rfl, ?_⟩
      refine ifY (decide_eq_true (by omega)) ?_
      exact ⟨_, rfl, _, rfl, q _ s1⟩
/-! rows_fault -/
def RowsAt (H : Hp) (r : Addr) (rows : List (List Int)) : Prop := ∃ rs : List Addr, H r = some (.tup (rs.map V.ref)) ∧ Paired (fun a row => H a = some (.tup (row.map V.int))) rs rows
theorem RowsAt.same {H H' : Hp} {r : Addr} {rows : List (List Int)} (h : RowsAt H r rows) (s : Same H H') : RowsAt H' r rows := by
  obtain ⟨rs, h1, h2⟩ := h
  exact ⟨rs, s _ _ h1, paired_mono h2 fun a row _ e => s _ _ e⟩
/-- as many rows as numbers in each, within m -/
def Sq (m : Int) (rows : List (List Int)) : Prop := 1 ≤ rows.length ∧ rows.length ≤ 5 ∧ ∀ row ∈ rows, row.length = rows.length ∧ ∀ x ∈ row, -m ≤ x ∧ x ≤ m
theorem scFault : FnScope ["value", "most", "index", "row", "number"] ["value", "most"] (defScope sFault) := ⟨rfl, rfl, rfl, by decide +kernel, rfl, by decide +kernel, by decide +kernel⟩
def spFault : Sp := fun vs H Q _ => ∃ (r : Addr) (m : Int) (rows : List (List Int)), vs = [.ref r, .int m] ∧ RowsAt H r rows ∧ Sq m rows ∧ ∀ H', Same H H' → Q (.int (-1)) H'
theorem paired_get2 {α β : Type} {F : α → β → Prop} : ∀ {l : List α} {m : List β} {i : Nat} {a : α}, Paired F l m → l[i]? = some a → ∃ b, m[i]? = some b ∧ F a b
  | _, _, _, _, .nil, e => by simp at e
  | _, _, 0, _, .cons r _, e => by simp at e; subst e; exact ⟨_, rfl, r⟩
  | _, _, i + 1, a, .cons _ t, e => by
    obtain ⟨b, h1, h2⟩ := paired_get2 (i := i) (a := a) t (by simpa using e)
    exact ⟨b, by simpa using h1, h2⟩
theorem ok_fault (F : L2.Fun K "rows_fault" "rows_fault" sFault f fd) (hm : mg "rows_fault" = some (.ref f)) (B : Bt mg) (C : Cs mg) (C2 : C8.Cal P w K mg base 2 "is_between" spBetween []) : C8.Cal P w K mg base 3 "rows_fault" spFault [] := by
  refine cal_mk F hm scFault (fun _ _ _ _ _ _ us hl => match us, hl with | [_, _], _ => rfl) (fun vs H Q E h => ?_) (fun cdv A outer s H vs Q E hr h => ?_)
  · obtain ⟨r, m, rows, rfl, _⟩ := h
    rfl
  · obtain ⟨r, m, rows, rfl, ⟨rs, hR, hp⟩, ⟨n1, n5, hsq⟩, q⟩ := h
    have hlen : rs.length = rows.length := paired_len hp
    refine ⟨_, pss_cons (ps_if (PW.pt (pw_or (pt_not (pt_val (pe_callB call_isi (by rfl) B.isi (by decide +kernel) (pa_cons (pv 0) (pa_cons (pe_bltn (v := .ty "tuple") (by rfl) B.tuple (by decide +kernel) rfl) pa_nil)))))
        (pw_or1 (pt_not (pt_chain op_le op_le pe_int (pe_callB call_len_seq (by rfl) B.len PySem.boot_len (pa_cons (pv 0) pa_nil)) (C8.pe_gc (by rfl) C.mostR)))))) (pss_one (ps_ret pe_non)) pss_nil)
      (pss_cons (ps_for PassesOwn.never rfl (pi_enumT (by rfl) B.enum (pa_cons (pv 0) pa_nil)) (pg_tup rfl (pgs_cons (pg_name (i := 2) scFault.nd rfl (.inl rfl)) (pgs_cons (pg_name (i := 3) scFault.nd rfl (.inl rfl)) pgs_nil)))
        (pss_cons (ps_if (PW.pt (pw_or (pt_not (pt_val (pe_callB call_isi (by rfl) B.isi (by decide +kernel) (pa_cons (pv 3) (pa_cons (pe_bltn (v := .ty "tuple") (by rfl) B.tuple (by decide +kernel) rfl) pa_nil)))))
            (pw_or1 (pt_cmpR op_ne (pe_callB call_len_seq (by rfl) B.len PySem.boot_len (pa_cons (pv 3) pa_nil)) (pe_callB call_len_seq (by rfl) B.len PySem.boot_len (pa_cons (pv 0) pa_nil)) (nomark _))))) (pss_one (ps_ret (pv 2))) pss_nil)
          (pss_one (ps_if (pt_not (pt_val (pe_callB (cr_all rfl) (by rfl) B.all (by decide +kernel) (pa_cons
            (pe_lc (own := [("number", 4)]) (g := gName 4) (tt := tYes) rfl scFault.nd (pi_tup (pv 3)) (blkOk_by (N := ["value", "most", "index", "row", "number"]) (sc := defScope sFault) (by decide +kernel)) (fun _ _ _ _ _ => pg_name (i := 4) scFault.nd rfl (Or.inl rfl)) (fun _ _ _ _ _ => pts_nil)
              (fun _ _ _ _ _ => C8.pe_c C2 hr (by decide) (by rfl) (pa_cons (pv 4) (pa_cons (pe_un un_neg (pv 1)) (pa_cons (pv 1) pa_nil))))) pa_nil)))) (pss_one (ps_ret (pv 2))) pss_nil))))
      (pss_one (ps_ret (pe_un un_neg pe_int)))), ?_⟩
    refine ⟨_, rfl, _, _, _, _, true, rfl, .ty "tuple", .base (.tup hR), kit_ty (by decide +kernel), true, rfl, iteF ?_⟩
    refine ⟨_, rfl, _, _, rfl, .inr (SqT.of hR), _, _, rfl, rfl, _, rfl, ?_⟩
    refine ifY (decide_eq_true (by rw [List.length_map]; omega)) ?_
    refine ⟨_, _, rfl, rfl, _, rfl, ?_⟩
    refine ifN (by rw [decide_eq_true (by rw [List.length_map]; omega)]; rfl) ?_
    refine ⟨_, rfl, r, _, rfl, SqT.of hR, ?_⟩
    refine for_enumT (K := K) (a := r) (xs := rs.map V.ref) (fun i σ H' => Same H H' ∧ ∃ v2 v3, σ = [some (.ref r), some (.int m), v2, v3, none]) ⟨Same.refl _, none, none, rfl⟩ (fun i σ H' _ p => SqT.of (p.1 _ _ hR)) ?_ ?_
    · rintro i x T σ H1 hx ⟨s0, v2, v3, rfl⟩ hT
      obtain ⟨a, rfl⟩ : ∃ a, x = V.ref a := by
        rw [List.getElem?_map] at hx
        cases e : rs[i]? with
        | none => rw [e] at hx; cases hx
        | some a => rw [e] at hx; exact ⟨a, (Option.some.inj hx).symm⟩
      have ha : rs[i]? = some a := by
        rw [List.getElem?_map] at hx
        cases e : rs[i]? with
        | none => rw [e] at hx; cases hx
        | some b =>
          rw [e] at hx
          have : V.ref b = V.ref a := Option.some.inj hx
          cases this
          rfl
      obtain ⟨row, hrow, hrA⟩ := paired_get2 hp ha
      obtain ⟨l1, l2⟩ := hsq row (List.mem_of_getElem? hrow)
      have s1 : Same H (upd H1 T (.tup [.int (i : Nat), .ref a])) := s0.new hT
      have hA1 := s1 _ _ hrA
      have hR1 := s1 _ _ hR
      refine ⟨T, _, rfl, SqT.of upd_same, rfl, _, _, rfl, _, _, rfl, rfl, ?_⟩
      refine ⟨_, rfl, _, _, _, _, true, rfl, .ty "tuple", .base (.tup hA1), kit_ty (by decide +kernel), true, rfl, iteF ?_⟩
      refine ⟨_, rfl, _, _, rfl, .inr (SqT.of hA1), _, rfl, _, _, rfl, .inr (SqT.of hR1), rfl, _, rfl, ?_⟩
      refine ifN ?_ ?_
      · rw [decide_eq_true (by rw [List.length_map, List.length_map, l1, hlen])]
        rfl
      · refine ⟨_, rfl, a, rfl, ⟨_, SqT.of hA1⟩, fun D hD => ?_⟩
        refine lcM (walk_tup (K := K) (a := a) (xs := row.map V.int)) (fun x y _ => y = .bl true) (fun _ _ _ _ r _ => r) (fun H2 s2 => SqT.of (s2 _ _ hA1)) hD ?_ (fun j x H2 Ny hx s2 _ hy => ?_) (fun H2 acc s2 hacc pr => ?_)
        · rw [List.length_map]; omega
        · rw [List.getElem?_map] at hx
          cases e : row[j]? with
          | none => rw [e] at hx; cases hx
          | some n =>
            rw [e] at hx
            obtain rfl : V.int n = x := Option.some.inj hx
            obtain ⟨b1, b2⟩ := l2 n (List.mem_of_getElem? e)
            exact ⟨rfl, _, rfl, _, rfl, _, rfl, _, rfl, n, -m, m, rfl, b1, b2, hy _ _ (Same.refl _) rfl⟩
        · have e : acc = (acc.map fun _ => true).map V.bl := by
            have g : ∀ {l acc : List V}, Paired (fun x y => y = V.bl true) l acc → acc = (acc.map fun _ => true).map V.bl := by
              intro l acc p
              induction p with
              | nil => rfl
              | cons a b ih =>
                rw [a]
                simpa using ih
            exact g pr
          refine ⟨D, _, rfl, SqL.of (e ▸ hacc), _, rfl, ?_⟩
          have ha : (acc.map fun _ => true).all id = true := by simp
          refine ifN (by rw [ha]; rfl) ?_
          exact ⟨s1.trans s2, _, _, rfl⟩
    · rintro σ H1 ⟨s0, v2, v3, rfl⟩
      exact ⟨_, rfl, q _ s0⟩
end
end Ky
end

section
set_option Elab.async false
set_option linter.all false
set_option maxRecDepth 100000
set_option maxHeartbeats 2000000
namespace Ky
open PySem PySem.Spec PyProof.Rows L2
/-- a sheet's text and its rows -/
structure ShOk (z : Str) (rows : List (List Int)) : Prop where
  len : z.length ≤ 1000
  cut : ∃ ls : List Str, Txt.split z sParted = ls ∧ ls.length ≤ 1000 ∧ Paired (fun l row => l.length ≤ 1000 ∧ ∃ ws : List Str, Txt.split l " " = ws ∧ ws.length ≤ 1000 ∧ Paired WordInt ws row) ls rows
  sq : Sq (10 ^ 20) rows
  back : Txt.join sParted (rows.map fun row => Txt.join " " (row.map fun i => (toString i : Str))) = z
  small : ∀ row ∈ rows, ∀ i ∈ row, -9 ≤ i ∧ i ≤ 9
theorem paired_left {α β : Type} {F : α → β → Prop} : ∀ {l : List α} {m : List β} {a : α}, Paired F l m → a ∈ l → ∃ b, b ∈ m ∧ F a b
  | _, _, _, .nil, h => by cases h
  | _, _, a, .cons (a := a0) (b := b0) r t, h => by
    rcases List.mem_cons.mp h with e | h
    · exact ⟨b0, List.mem_cons_self, e ▸ r⟩
    · obtain ⟨b, h1, h2⟩ := paired_left t h
      exact ⟨b, List.mem_cons_of_mem _ h1, h2⟩
theorem paired_map_r {α β γ : Type} {F : α → γ → Prop} {g : β → γ} : ∀ {l : List α} {m : List β}, Paired F l (m.map g) → Paired (fun a b => F a (g b)) l m
  | [], [], _ => .nil
  | [], _ :: _, p => by cases p
  | _ :: _, [], p => by cases p
  | _ :: _, _ :: _, p => by
    cases p with
    | cons a b => exact .cons a (paired_map_r b)
theorem paired_map_l {α β γ : Type} {F : γ → β → Prop} {g : α → γ} : ∀ {l : List α} {m : List β}, Paired F (l.map g) m → Paired (fun a b => F (g a) b) l m
  | [], [], _ => .nil
  | [], _ :: _, p => by cases p
  | _ :: _, [], p => by cases p
  | _ :: _, _ :: _, p => by
    cases p with
    | cons a b => exact .cons a (paired_map_l b)
/-- two pairings over the same list -/
theorem paired_join {α β γ : Type} {F : α → β → Prop} {G : α → γ → Prop} : ∀ {l : List α} {m : List β} {n : List γ}, Paired F l m → Paired G l n → Paired (fun b c => ∃ a, a ∈ l ∧ F a b ∧ G a c) m n
  | _, _, _, .nil, .nil => .nil
  | _, _, _, .cons a b, .cons c d => .cons ⟨_, List.mem_cons_self, a, c⟩ (paired_mono (paired_join b d) fun _ _ _ ⟨a, ha, h⟩ => ⟨a, List.mem_cons_of_mem _ ha, h⟩)
theorem wordInt_uniq {z : Str} {i j : Int} (h1 : WordInt z i) (h2 : WordInt z j) : i = j := by
  obtain ⟨d, hd, h1⟩ := h1
  obtain ⟨e, he, h2⟩ := h2
  have dd : ∀ {a b : Nat}, dg a = dg b → a = b := fun {a b} z => by
    have z3 : (#[48 + a] : Array Nat) = #[48 + b] := congrArg Str.cps z
    simpa using z3
  have nn : ∀ {a b : Nat}, ng a = ng b → a = b := fun {a b} z => by
    have z3 : (#[45, 48 + a] : Array Nat) = #[45, 48 + b] := congrArg Str.cps z
    simpa using z3
  have dn : ∀ {a b : Nat}, dg a = ng b → False := fun {a b} z => by
    have z3 : (#[48 + a] : Array Nat) = #[45, 48 + b] := congrArg Str.cps z
    simp at z3
  rcases h1 with ⟨e1, e2⟩ | ⟨_, e1, e2⟩ <;> rcases h2 with ⟨f1, f2⟩ | ⟨_, f1, f2⟩
  · rw [e2, f2, dd (e1.symm.trans f1)]
  · exact (dn (e1.symm.trans f1)).elim
  · exact (dn (f1.symm.trans e1)).elim
  · rw [e2, f2, nn (e1.symm.trans f1)]
theorem str_map_inj : ∀ {xs ys : List Str}, xs.map V.str = ys.map V.str → xs = ys
  | [], [], _ => rfl
  | [], _ :: _, e => by cases e
  | _ :: _, [], e => by cases e
  | x :: xs, y :: ys, e => by
    have e1 : V.str x = V.str y := (List.cons.inj e).1
    have e2 := str_map_inj (List.cons.inj e).2
    cases e1
    rw [e2]
theorem words_uniq : ∀ {ws : List Str} {r s : List Int}, Paired WordInt ws r → Paired WordInt ws s → r = s
  | _, _, _, .nil, .nil => rfl
  | _, _, _, .cons a b, .cons c d => by rw [wordInt_uniq a c, words_uniq b d]
theorem paired_refs {α : Type} {F : Addr → α → Prop} : ∀ {ys : List V} {xs : List α}, Paired (fun x y => ∃ a, y = V.ref a ∧ F a x) xs ys → ∃ rs : List Addr, ys = rs.map V.ref ∧ Paired F rs xs
  | _, _, .nil => ⟨[], rfl, .nil⟩
  | _, _, .cons ⟨a, e, h⟩ t => by
    obtain ⟨rs, e2, p⟩ := paired_refs t
    exact ⟨a :: rs, by rw [e, e2]; rfl, .cons h p⟩
theorem paired_swap {α β : Type} {F : α → β → Prop} : ∀ {l : List α} {m : List β}, Paired F l m → Paired (fun b a => F a b) m l
  | _, _, .nil => .nil
  | _, _, .cons a b => .cons a (paired_swap b)
section
variable {P : Program} {w : World} {K : PySem.W.Frag} {mg : Str → Option Value} {base : Heap} {f : Addr} {fd : FuncData}
def rTupOf (K : PySem.W.Frag) : List V → Hp → VK → Prop := fun xs H Q => ∃ p ys, xs = [V.ref p] ∧ ((SqL K H p ys ∧ ∀ l, H l = none → Q (.ref l) (upd H l (.tup ys))) ∨ (SqT K H p ys ∧ Q (.ref p) H))
theorem call_tupO {X : Cx} : CallR X (.type "tuple") (rTupOf X.K) := call_tuple_of
/-- the scope of a comprehension of one name, that reads these globals -/
abbrev lcSc (x : Str) (gs : List Str) : Scope := { kind := .function, names := (".0", .local) :: (x, .local) :: gs.map fun g => (g, .globalImplicit), isGenerator := false, isCoroutine := false }
theorem scRowsIn : FnScope ["text", "lines", "rows", "line", "word"] ["text"] (defScope sRowsIn) := ⟨rfl, rfl, rfl, by decide +kernel, rfl, by decide +kernel, by decide +kernel⟩
def spRowsIn : Sp := fun vs H Q _ => ∃ (z : Str) (rows : List (List Int)), vs = [.str z] ∧ ShOk z rows ∧ ∀ (H' : Hp) (r : Addr), Same H H' → RowsAt H' r rows → Q (.ref r) H'
theorem ok_rowsIn (F : L2.Fun K "rows_in" "rows_in" sRowsIn f fd) (hm : mg "rows_in" = some (.ref f)) (B : Bt mg) (C : Cs mg) (C2 : C8.Cal P w K mg base 2 "signed_in" spSigned []) (C3 : C8.Cal P w K mg base 3 "rows_fault" spFault []) : C8.Cal P w K mg base 4 "rows_in" spRowsIn [] := by
  refine cal_mk F hm scRowsIn (fun _ _ _ _ _ _ us hl => match us, hl with | [_], _ => rfl) (fun vs H Q E h => ?_) (fun cdv A outer s H vs Q E hr h => ?_)
  · obtain ⟨z, rows, rfl, _⟩ := h
    rfl
  · obtain ⟨z, rows, rfl, S, q⟩ := h
    obtain ⟨ls, hls, hll, hp⟩ := S.cut
    refine ⟨_, pss_cons (ps_setLc (i := 1) (own := [("line", 3)]) (g := gName 3) (tt := tYes) rfl scRowsIn.nd rfl rfl (sw_true rfl rfl rfl (by decide +kernel)) (pi_list (pe_split (pv 0) (C8.pe_gc (by rfl) C.parted)))
          (blkOk_by (N := ["text", "lines", "rows", "line", "word"]) (sc := defScope sRowsIn) (by decide +kernel)) (fun _ _ _ _ _ => pg_name (i := 3) scRowsIn.nd rfl (Or.inl rfl)) (fun _ _ _ _ _ => pts_nil)
          (fun _ _ _ _ _ => pe_split (pv 3) pe_str))
      (pss_cons (ps_set (i := 2) scRowsIn.nd rfl (Or.inl rfl) (pe_callTy call_tupO (by rfl) B.tuple boot_tuple (pa_cons
          (pe_lc (own := [("line", 3)]) (g := gName 3) (tt := tYes) rfl scRowsIn.nd (pi_list (pv 1)) (blkOk_by (N := ["text", "lines", "rows", "line", "word"]) (sc := defScope sRowsIn) (by decide +kernel)) (fun _ _ _ _ _ => pg_name (i := 3) scRowsIn.nd rfl (Or.inl rfl)) (fun _ _ _ _ _ => pts_nil)
            (fun _ _ _ _ _ => pe_callTy (r := rTupOf K) call_tupO (by rfl) B.tuple boot_tuple (pa_cons
              (pe_lc (wi := iList K (tVar 3)) (own := [("word", 4)]) (g := gName 4) (tt := tYes) rfl scRowsIn.nd (pi_list (pv 3)) (blkOk_by (N := ["text", "lines", "rows", "line", "word"]) (sc := lcSc "line" ["tuple"]) (by decide +kernel)) (fun _ _ _ _ _ => pg_name (i := 4) scRowsIn.nd rfl (Or.inl rfl)) (fun _ _ _ _ _ => pts_nil)
                (fun _ _ _ _ _ => C8.pe_c C2 hr (by decide) (by rfl) (pa_cons (pv 4) (pa_cons (C8.pe_gc (by rfl) C.mostN) pa_nil)))) pa_nil))) pa_nil)))
      (pss_one (ps_ret (pe_ifExp (pt_cmpR op_eq (C8.pe_c C3 hr (by decide) (by rfl) (pa_cons (pv 2) (pa_cons (C8.pe_gc (by rfl) C.mostN) pa_nil))) (pe_un un_neg pe_int) (nomark _)) (pv 2) pe_non)))), ?_⟩
    refine ⟨_, rfl, ⟨_, rfl⟩, _, sParted, rfl, rfl, rfl, le_line (by have := S.len; omega), fun p0 hp0 => ?_⟩
    rw [hls]
    refine ⟨p0, rfl, ⟨_, SqL.of upd_same⟩, fun D hD => ?_⟩
    have sp0 : Same H (upd H p0 (.lst (ls.map V.str))) := same_new hp0
    refine lcM (walk_list (K := K) (a := p0) (xs := ls.map V.str)) (fun x y H => ∃ (l : Str) (a : Addr), x = .str l ∧ y = .ref a ∧ H a = some (.lst ((Txt.split l " ").map V.str))) (fun x y H H' ⟨l, a, e1, e2, e3⟩ s => ⟨l, a, e1, e2, s _ _ e3⟩) (fun H2 s2 => SqL.of (s2 _ _ upd_same)) hD ?_ (fun i x H2 Ny hx s2 hacc hy => ?_) (fun H2 acc s2 hacc pr => ?_)
    · rw [List.length_map]; omega
    · obtain ⟨l, hl, rfl⟩ : ∃ l, l ∈ ls ∧ V.str l = x := List.mem_map.mp (List.mem_of_getElem? hx)
      obtain ⟨row, hrow, hl1, _⟩ := paired_left hp hl
      refine ⟨rfl, _, rfl, ⟨_, rfl⟩, _, _, rfl, rfl, rfl, le_line (by omega), fun p hpn => ?_⟩
      obtain ⟨acc0, hacc⟩ := hacc
      exact hy _ _ (same_new hpn) ⟨l, p, rfl, rfl, by rw [del_ne (Ne.symm (ne_of_none hacc hpn)), upd_same]⟩
    · -- the list of lists of words stands at D
      have pr2 : Paired (fun (l : Str) (y : V) => ∃ a, y = V.ref a ∧ H2 a = some (.lst ((Txt.split l " ").map V.str))) ls acc :=
        paired_mono (paired_map_l pr) fun l y _ ⟨l', a, e1, e2, e3⟩ => by
          cases e1
          exact ⟨a, e2, same_del _ _ e3⟩
      obtain ⟨as, eas, pas⟩ := paired_refs pr2
      subst eas
      have s02 : Same H H2 := sp0.trans s2
      refine ⟨_, rfl, D, rfl, ⟨_, SqL.of hacc⟩, fun D2 hD2 => ?_⟩
      have pj := paired_join (paired_swap pas) hp
      have lenas : as.length = rows.length := paired_len pj
      refine lcM (walk_list (K := K) (a := D) (xs := as.map V.ref)) (fun x y H => ∃ (a : Addr) (b : Addr), x = .ref a ∧ y = .ref b ∧ ∃ row : List Int, (∃ l : Str, (H2 a = some (.lst ((Txt.split l " ").map V.str)) ∧ Paired WordInt (Txt.split l " ") row)) ∧ H b = some (.tup (row.map V.int)))
        (fun x y H H' ⟨a, b, e1, e2, row, e3, e4⟩ s => ⟨a, b, e1, e2, row, e3, s _ _ e4⟩) (fun H3 s3 => SqL.of (s3 _ _ hacc)) hD2 ?_ (fun i x H3 Ny hx s3 hacc3 hy => ?_) (fun H3 acc3 s3 hacc3 pr3 => ?_)
      · rw [List.length_map]
        have := paired_len hp
        omega
      · obtain ⟨a, ha, rfl⟩ : ∃ a, a ∈ as ∧ V.ref a = x := List.mem_map.mp (List.mem_of_getElem? hx)
        obtain ⟨row, hrow, l, hl, hal, hl1, ws, hws, hwl, hwp⟩ := paired_left pj ha
        have hal3 := s3 _ _ hal
        refine ⟨rfl, _, rfl, a, rfl, ⟨_, SqL.of hal3⟩, fun D3 hD3 => ?_⟩
        refine lcM (walk_list (K := K) (a := a) (xs := (Txt.split l " ").map V.str)) (fun x y _ => ∃ (wd : Str) (n : Int), x = .str wd ∧ y = .int n ∧ WordInt wd n) (fun _ _ _ _ r _ => r) (fun H4 s4 => SqL.of (s4 _ _ hal3)) hD3 ?_ (fun j x H4 Ny4 hx4 s4 _ hy4 => ?_) (fun H4 acc4 s4 hacc4 pr4 => ?_)
        · rw [List.length_map, hws]; omega
        · obtain ⟨wd, hwd, rfl⟩ : ∃ wd, wd ∈ Txt.split l " " ∧ V.str wd = x := List.mem_map.mp (List.mem_of_getElem? hx4)
          rw [hws] at hwd
          obtain ⟨n, hn, hwn⟩ := paired_left hwp hwd
          exact ⟨rfl, _, rfl, wd, n, _, rfl, hwn, by decide, fun H5 s5 => hy4 _ _ s5 ⟨wd, n, rfl, rfl, hwn⟩⟩
        · have e4 : acc4 = row.map V.int := by
            have g : ∀ {ws : List Str} {acc : List V} {row : List Int}, Paired (fun x y => ∃ (wd : Str) (n : Int), x = V.str wd ∧ y = V.int n ∧ WordInt wd n) (ws.map V.str) acc → Paired WordInt ws row → acc = row.map V.int := by
              intro ws
              induction ws with
              | nil =>
                intro acc row p1 p2
                cases p1
                cases p2
                rfl
              | cons x ws ih =>
                intro acc row p1 p2
                cases p2 with
                | cons a2 b2 =>
                  cases p1 with
                  | cons a1 b1 =>
                    obtain ⟨wd, n, e1, e2, h1⟩ := a1
                    cases e1
                    rw [e2, ih b1 b2, wordInt_uniq h1 a2]
                    rfl
            exact g pr4 (hws ▸ hwp)
          subst e4
          refine ⟨D3, _, rfl, .inl ⟨SqL.of hacc4, fun p hpn => ?_⟩⟩
          obtain ⟨acc0, hacc0⟩ := hacc3
          have hacc4' := s4 _ _ hacc0
          exact hy _ _ (s4.trans (same_new hpn)) ⟨a, p, rfl, rfl, row, ⟨l, hal, hws ▸ hwp⟩, by rw [del_ne (Ne.symm (ne_of_none hacc4' hpn)), upd_same]⟩
      · have pj3 := paired_join (paired_map_l pr3) pj
        have pk : Paired (fun (row : List Int) (y : V) => ∃ b, y = V.ref b ∧ H3 b = some (.tup (row.map V.int))) rows acc3 := paired_swap (paired_mono pj3 fun y row _ ⟨a, _, ⟨a', b, e1, e2, row', ⟨l', h1, h2⟩, h3⟩, l, _, h4, _, ws, h5, _, h6⟩ => by
          cases e1
          refine ⟨b, e2, ?_⟩
          have e3 : (Txt.split l' " ").map V.str = (Txt.split l " ").map V.str := by
            rw [h1] at h4
            simpa using h4
          have e4 : Txt.split l' " " = Txt.split l " " := str_map_inj e3
          have e5 : row' = row := words_uniq h2 (by rw [e4, h5]; exact h6)
          rw [← e5]
          exact same_del _ _ h3)
        obtain ⟨rs, ers, prs⟩ := paired_refs pk
        subst ers
        refine ⟨D2, _, rfl, .inl ⟨SqL.of hacc3, fun p hpn => ?_⟩⟩
        have sE : Same H (upd H3 p (.tup (rs.map V.ref))) := (s02.trans s3).new hpn
        have hRA : RowsAt (upd H3 p (.tup (rs.map V.ref))) p rows := ⟨rs, upd_same, paired_mono prs fun b row _ e => same_new hpn _ _ e⟩
        refine ⟨_, rfl, p, _, rows, rfl, hRA, S.sq, fun H5 s5 => ?_⟩
        refine ⟨_, rfl, rfl, _, rfl, ?_⟩
        refine ifY (decide_eq_true rfl) ?_
        exact ⟨_, rfl, q _ _ (sE.trans s5) (hRA.same s5)⟩
end
end Ky
end

section
set_option Elab.async false
set_option linter.all false
set_option maxRecDepth 100000
set_option maxHeartbeats 2000000
namespace Ky
open PySem PySem.Spec PyProof.Rows L2
/-! bundles for methods -/
/-- a method of the class at C; CX: what it may let out -/
structure MtX (CX : CXT) (P : Program) (w : World) (K : PySem.W.Frag) (mg : Str → Option Value) (base : Heap) (k : Nat) (C : Addr) (m : Str) (sp : Sp) : Prop where
  ex : ∃ (f : Addr) (fd : FuncData) (ps : List Str), Cls K C ∧ Meth K C m f ∧ FnOk P w K mg base CX k f fd ps sp ∧ Binds K fd ps []
theorem met_mk {P : Program} {w : World} {K : PySem.W.Frag} {mg : Str → Option Value} {base : Heap} {C : Addr} {m qual : Str} {st : Stmt} {f : Addr} {fd : FuncData} {N ps : List Str} {k : Nat} {sp : Sp} (c : Cls K C) (me : Meth K C m f) (F : L2.Fun K m qual st f fd) (S : FnScope N ps (defScope st))
    (hb : ∀ (kV doc pm : Value) (an : Option Addr) (cdv ct : Value) (us : List Value), us.length = ps.length → bindArgs (PySem.W.fnOf m qual (defArgs st) (defBody st) (defScope st) .none kV doc pm an cdv ct) ⟨us, []⟩ = pure (ps.zip us))
    (len : ∀ vs H Q E, sp vs H Q E → vs.length = ps.length)
    (hbody : ∀ (cdv : Value) (A : Around) (outer : List Env) (s : Shared) (H : Hp) (vs : List V) (Q : VK) (E : XK), Room k (A.deeper (envOfC qual (defScope st) s.heap.objs.size f cdv)) → sp vs H Q E →
      ∃ t, PSs (cxOf L2.CX0 P w K mg base N qual (defScope st) f cdv A outer s H E).nox (defBody st) t ∧ t { nx := fun _ H' => Q .non H', rt := Q } (start N vs) H) : MtX L2.CX0 P w K mg base (k + 1) C m sp :=
  ⟨f, fd, ps, c, me, F.ok S len hbody, F.binds hb⟩
theorem metX_mk {P : Program} {w : World} {K : PySem.W.Frag} {mg : Str → Option Value} {base : Heap} {C : Addr} {m qual : Str} {st : Stmt} {f : Addr} {fd : FuncData} {N ps : List Str} {k : Nat} {sp : Sp} (c : Cls K C) (me : Meth K C m f) (F : L2.Fun K m qual st f fd) (S : FnScope N ps (defScope st))
    (hb : ∀ (kV doc pm : Value) (an : Option Addr) (cdv ct : Value) (us : List Value), us.length = ps.length → bindArgs (PySem.W.fnOf m qual (defArgs st) (defBody st) (defScope st) .none kV doc pm an cdv ct) ⟨us, []⟩ = pure (ps.zip us))
    (len : ∀ vs H Q E, sp vs H Q E → vs.length = ps.length)
    (hbody : ∀ (cdv : Value) (A : Around) (outer : List Env) (s : Shared) (H : Hp) (vs : List V) (Q : VK) (E : XK), Room k (A.deeper (envOfC qual (defScope st) s.heap.objs.size f cdv)) → sp vs H Q E →
      ∃ t, PSs (cxOf (L2.CX P w) P w K mg base N qual (defScope st) f cdv A outer s H E) (defBody st) t ∧ t { nx := fun _ H' => Q .non H', rt := Q } (start N vs) H) : MtX (L2.CX P w) P w K mg base (k + 1) C m sp :=
  ⟨f, fd, ps, c, me, F.okX S len hbody, F.binds hb⟩
section
variable {X : Cx} {CX : CXT} {k j : Nat} {C : Addr} {x m : Str} {sp : Sp} {p pos apos : Pos} {e o : Expr} {es : List Expr} {ta : TE} {t : TA} {E : XK}
theorem pe_mX {pl : Sem Bool} (c : MtX CX X.prog X.w X.K X.mg X.base k C m sp) (hr : Room j X.A) (hk : k ≤ j) (he : PE X o ta) (hx : Passes CX X E) (ha : PA X (e :: es) t)
    (hst : starEach (e :: es) X.env = (false, eval e X.env) :: starEach es X.env := by rfl) (hpl : (backTo pos (starEach es X.env)).any (·.1) = false := by rfl)
    (ht : eval (.Call (.Attribute o m apos) (e :: es) [] pos) X.env = (do
      let ov ← eval o X.env
      standAt apos.atName
      let (f, first) ← holding [ov] (getMethod ov m pl)
      callWith pos f first (backTo pos (starEach (e :: es) X.env)) (backToKw pos (keywordEach [] X.env))) := by rfl) :
    PE X (.Call (.Attribute o m apos) (e :: es) [] pos) (tMeth C m sp [] E ta t) := by
  obtain ⟨f, fd, ps, hc, hm, F, b⟩ := c.ex
  exact pe_meth (pl := pl) he hc hm F (hr.mono hk) b .nil hx ha hst hpl ht
theorem pe_mX0 {pl : Sem Bool} (c : MtX CX X.prog X.w X.K X.mg X.base k C m sp) (hr : Room j X.A) (hk : k ≤ j) (he : PE X o ta) (hx : Passes CX X E)
    (ht : eval (.Call (.Attribute o m apos) [] [] pos) X.env = (do
      let ov ← eval o X.env
      standAt apos.atName
      let (f, first) ← holding [ov] (getMethod ov m pl)
      callWith pos f first (backTo pos (starEach [] X.env)) (backToKw pos (keywordEach [] X.env))) := by rfl) :
    PE X (.Call (.Attribute o m apos) [] [] pos) (tMeth C m sp [] E ta tNil) := by
  obtain ⟨f, fd, ps, hc, hm, F, b⟩ := c.ex
  exact pe_meth0 (pl := pl) he hc hm F (hr.mono hk) b .nil hx ht
end
/-! the table -/
def tf (r : Addr) : List (Str × V) := putF "rows" (.ref r) []
theorem tf_rows (r : Addr) : (tf r).lookup ("rows" : Str) = some (.ref r) := by
  unfold tf
  rw [lookup_putF, if_pos rfl]
def TabAt (CT : Addr) (H : Hp) (t : Addr) (rows : List (List Int)) : Prop := ∃ (dx r : Addr), H t = some (.ins CT dx (tf r)) ∧ RowsAt H r rows
theorem TabAt.same {CT : Addr} {H H' : Hp} {t : Addr} {rows : List (List Int)} (h : TabAt CT H t rows) (s : Same H H') : TabAt CT H' t rows := by
  obtain ⟨dx, r, h1, h2⟩ := h
  exact ⟨dx, r, s _ _ h1, h2.same s⟩
structure TbT (K : PySem.W.Frag) (mg : Str → Option Value) (CT : Addr) : Prop where
  cl : Cls K CT
  nR : NoAttr K CT "rows"
  mgT : mg "Table" = some (.ref CT)
  ins : C8.InsC K CT
section
variable {P : Program} {w : World} {K : PySem.W.Frag} {mg : Str → Option Value} {base : Heap} {f CT : Addr} {fd : FuncData}
theorem scTabInit : FnScope ["self", "rows"] ["self", "rows"] (defScope sTabInit) := ⟨rfl, rfl, rfl, by decide +kernel, rfl, by decide +kernel, by decide +kernel⟩
def spTabInit (CT : Addr) : Sp := fun vs H Q _ => ∃ (t r dx : Addr) (rows : List (List Int)), vs = [.ref t, .ref r] ∧ H t = some (.ins CT dx []) ∧ RowsAt H r rows ∧ Sq (10 ^ 20) rows ∧
  ∀ H', (∀ b o, b ≠ t → H b = some o → H' b = some o) → H' t = some (.ins CT dx (tf r)) → Q .non H'
theorem ok_tabInit (F : L2.Fun K "__init__" "Table.__init__" sTabInit f fd) (T : TbT K mg CT) (C : Cs mg) (C3 : C8.Cal P w K mg base 3 "rows_fault" spFault []) : FnOk P w K mg base L2.CX0 4 f fd ["self", "rows"] (spTabInit CT) := by
  refine F.ok scTabInit (fun vs H Q E h => ?_) (fun cdv A outer s H vs Q E hr h => ?_)
  · obtain ⟨t, r, dx, rows, rfl, _⟩ := h
    rfl
  · obtain ⟨t, r, dx, rows, rfl, ht, hR, hS, q⟩ := h
    refine ⟨_, pss_cons (ps_if (pt_cmpR op_ne (C8.pe_c C3 hr (by decide) (by rfl) (pa_cons (pv 1) (pa_cons (C8.pe_gc (by rfl) C.mostN) pa_nil))) (pe_un un_neg pe_int) (nomark _)) (pss_one ps_never) pss_nil)
      (pss_one (ps_fld (pv 0) (pv 1) rfl)), ?_⟩
    refine ⟨_, rfl, r, _, rows, rfl, hR, hS, fun H1 s1 => ?_⟩
    refine ⟨_, rfl, rfl, _, rfl, ?_⟩
    refine ifN (by decide) ?_
    have ht1 := s1 _ _ ht
    refine ⟨_, rfl, _, rfl, t, CT, dx, [], rfl, ht1, T.cl, T.nR, (by show 0 < 1000; decide), ?_⟩
    refine q _ (fun b o hb e => ?_) upd_same
    rw [upd_ne hb]
    exact s1 _ _ e
theorem scRead : FnScope ["cls", "text", "rows"] ["cls", "text"] (defScope sRead) := ⟨rfl, rfl, rfl, by decide +kernel, rfl, by decide +kernel, by decide +kernel⟩
def spRead (CT : Addr) : Sp := fun vs H Q _ => ∃ (z : Str) (rows : List (List Int)), vs = [.ref CT, .str z] ∧ ShOk z rows ∧ ∀ (H' : Hp) (t : Addr), Same H H' → TabAt CT H' t rows → Q (.ref t) H'
theorem ok_read {fI : Addr} {fdI : FuncData} (F : L2.Fun K "read" "Table.read" sRead f fd) (B : Bt mg) (M : Mk K CT fI) (bI : Binds K fdI ["self", "rows"] []) (FI : FnOk P w K mg base L2.CX0 4 fI fdI ["self", "rows"] (spTabInit CT))
    (C4 : C8.Cal P w K mg base 4 "rows_in" spRowsIn []) : FnOk P w K mg base L2.CX0 6 f fd ["cls", "text"] (spRead CT) := by
  refine F.ok scRead (fun vs H Q E h => ?_) (fun cdv A outer s H vs Q E hr h => ?_)
  · obtain ⟨z, rows, rfl, _⟩ := h
    rfl
  · obtain ⟨z, rows, rfl, S, q⟩ := h
    refine ⟨_, pss_cons (ps_set (i := 2) scRead.nd rfl (Or.inl rfl) (pe_ifExp (pt_val (pe_callB call_isi (by rfl) B.isi (by decide +kernel) (pa_cons (pv 1) (pa_cons (pe_bltn (v := .ty "str") (by rfl) B.str (by decide +kernel) rfl) pa_nil))))
        (C8.pe_c C4 hr (by decide) (by rfl) (pa_cons (pv 1) pa_nil)) pe_non))
      (pss_cons (ps_if (pt_cmpR op_isN (pv 2) pe_non (nomark _)) (pss_one ps_never) pss_nil)
      (pss_one (ps_ret (pe_makeL (i := 0) M FI hr rfl (Or.inl rfl) bI pass0 (pa_cons (pv 2) pa_nil))))), ?_⟩
    refine ⟨_, rfl, _, _, _, _, true, rfl, .ty "str", .base (.str z), kit_ty (by decide +kernel), true, rfl, iteT ?_⟩
    refine ⟨_, rfl, z, rows, rfl, S, fun H1 r s1 hR => ?_⟩
    refine ⟨_, rfl, rfl, _, rfl, ?_⟩
    refine ifN (decide_eq_false (by intro z; cases z)) ?_
    refine ⟨rfl, _, rfl, fun x dx nx nd ne => ?_⟩
    have s2 : Same H1 (upd (upd H1 dx (.own x)) x (.ins CT dx [])) := fun b o e => by
      rw [upd_ne (ne_of_none e nx), upd_ne (ne_of_none e nd)]
      exact e
    refine ⟨x, r, dx, rows, rfl, upd_same, hR.same s2, S.sq, fun H2 k h2 => ⟨rfl, ?_⟩⟩
    have s3 : Same H1 H2 := fun b o e => k b o (ne_of_none e nx) (s2 b o e)
    exact q H2 x (s1.trans s3) ⟨dx, r, h2, hR.same s3⟩
/-- sep.join(..) -/
def rJoinOf (K : PySem.W.Frag) : V → List V → Hp → VK → Prop := fun x xs H Q => ∃ a p, ∃ ys : List Str, x = .str a ∧ xs = [.ref p] ∧ (SqL K H p (ys.map V.str) ∨ SqT K H p (ys.map V.str)) ∧ (ys.map (·.length)).sum + ys.length * a.length ≤ 16777216 ∧ Q (.str (Txt.join a ys)) H
theorem pe_joinK {X : Cx} {o e : Expr} {to te : TE} {apos pos : Pos} {K : PySem.W.Frag} (hK : X.K = K) (ho : PE X o to) (he : PE X e te) (hs : starEach [e] X.env = [(false, eval e X.env)] := by rfl) (hbase : attributeBase o "join" X.env (eval o X.env) = eval o X.env := by rfl) (hline : (apos.endLine == pos.line) = true := by rfl) :
    PE X (.Call (.Attribute o "join" apos) [e] [] pos) (tM1 (rJoinOf K) to te) := by
  subst hK
  exact pe_join ho he hs hbase hline
theorem scText : FnScope ["self", "row", "number"] ["self"] (defScope sText) := ⟨rfl, rfl, rfl, by decide +kernel, rfl, by decide +kernel, by decide +kernel⟩
/-- what a table's text is -/
def txtOf (rows : List (List Int)) : Str := Txt.join sParted (rows.map fun row => Txt.join " " (row.map fun i => (toString i : Str)))
structure TxOk (rows : List (List Int)) : Prop where
  l1 : rows.length ≤ 100
  l2 : ∀ row ∈ rows, row.length ≤ 100
  j1 : ∀ row ∈ rows, ((row.map fun i => (toString i : Str)).map (·.length)).sum + (row.map fun i => (toString i : Str)).length * 1 ≤ 16777216
  j2 : ((rows.map fun row => Txt.join " " (row.map fun i => (toString i : Str))).map (·.length)).sum + (rows.map fun row => Txt.join " " (row.map fun i => (toString i : Str))).length * 3 ≤ 16777216
  j3 : ∀ row ∈ rows, ∀ i ∈ row, i.natAbs.log2 < 1920
def spText (CT : Addr) : Sp := fun vs H Q _ => ∃ (t : Addr) (rows : List (List Int)), vs = [.ref t] ∧ TabAt CT H t rows ∧ TxOk rows ∧ ∀ H', Same H H' → Q (.str (txtOf rows)) H'
theorem paired_strs {α : Type} {g : α → Str} : ∀ {xs : List V} {ys : List α} {acc : List V}, Paired (fun x y => ∃ s : Str, y = V.str s ∧ x = x) xs acc → True := fun _ => trivial
theorem ok_text (F : L2.Fun K "text" "Table.text" sText f fd) (T : TbT K mg CT) (B : Bt mg) (C : Cs mg) : FnOk P w K mg base L2.CX0 1 f fd ["self"] (spText CT) := by
  refine F.ok scText (fun vs H Q E h => ?_) (fun cdv A outer s H vs Q E hr h => ?_)
  · obtain ⟨t, rows, rfl, _⟩ := h
    rfl
  · obtain ⟨t, rows, rfl, ⟨dx, r, ht, ⟨rs, hR, hp⟩⟩, J, q⟩ := h
    refine ⟨_, pss_one (ps_ret (pe_joinK (K := K) rfl (C8.pe_gc (by rfl) C.parted)
        (pe_lc (own := [("row", 1)]) (g := gName 1) (tt := tYes) rfl scText.nd (pi_tup (pe_fld (pv 0) rfl)) (blkOk_by (N := ["self", "row", "number"]) (sc := defScope sText) (by decide +kernel)) (fun _ _ _ _ _ => pg_name (i := 1) scText.nd rfl (Or.inl rfl)) (fun _ _ _ _ _ => pts_nil)
          (fun _ _ _ _ _ => pe_joinK (K := K) rfl pe_str
            (pe_lc (wi := iTup K (tVar 1)) (own := [("number", 2)]) (g := gName 2) (tt := tYes) rfl scText.nd (pi_tup (pv 1)) (blkOk_by (N := ["self", "row", "number"]) (sc := lcSc "row" []) (by decide +kernel)) (fun _ _ _ _ _ => pg_name (i := 2) scText.nd rfl (Or.inl rfl)) (fun _ _ _ _ _ => pts_nil)
              (fun _ _ _ _ _ => pe_callTy call_str_int (by rfl) B.str boot_str (pa_cons (pv 2) pa_nil))))))), ?_⟩
    refine ⟨⟨_, rfl⟩, _, rfl, t, CT, dx, _, _, rfl, ht, T.cl, T.nR, tf_rows r, r, rfl, ⟨_, SqT.of hR⟩, fun D hD => ?_⟩
    refine lcM (walk_tup (K := K) (a := r) (xs := rs.map V.ref)) (fun x y _ => ∃ (a : Addr) (row : List Int), x = .ref a ∧ H a = some (.tup (row.map V.int)) ∧ y = .str (Txt.join " " (row.map fun i => (toString i : Str)))) (fun _ _ _ _ r _ => r) (fun H2 s2 => SqT.of (s2 _ _ hR)) hD ?_ (fun i x H2 Ny hx s2 hacc hy => ?_) (fun H2 acc s2 hacc pr => ?_)
    · rw [List.length_map, paired_len hp]
      have := J.l1
      omega
    · obtain ⟨a, ha, rfl⟩ : ∃ a, a ∈ rs ∧ V.ref a = x := List.mem_map.mp (List.mem_of_getElem? hx)
      obtain ⟨row, hrow, hra⟩ := paired_left hp ha
      have hra2 := s2 _ _ hra
      refine ⟨rfl, ⟨_, rfl⟩, _, rfl, a, rfl, ⟨_, SqT.of hra2⟩, fun D2 hD2 => ?_⟩
      refine lcM (walk_tup (K := K) (a := a) (xs := row.map V.int)) (fun x y _ => ∃ n : Int, x = .int n ∧ y = .str (toString n : Str)) (fun _ _ _ _ r _ => r) (fun H3 s3 => SqT.of (s3 _ _ hra2)) hD2 ?_ (fun j x H3 Ny3 hx3 s3 _ hy3 => ?_) (fun H3 acc3 s3 hacc3 pr3 => ?_)
      · rw [List.length_map]
        have := J.l2 row hrow
        omega
      · obtain ⟨n, hn, rfl⟩ : ∃ n, n ∈ row ∧ V.int n = x := List.mem_map.mp (List.mem_of_getElem? hx3)
        exact ⟨rfl, _, rfl, n, rfl, J.j3 row hrow n hn, hy3 _ _ (Same.refl _) ⟨n, rfl, rfl⟩⟩
      · have e : acc3 = (row.map fun i => (toString i : Str)).map V.str := by
          have g : ∀ {row : List Int} {acc : List V}, Paired (fun x y => ∃ n : Int, x = V.int n ∧ y = V.str (toString n : Str)) (row.map V.int) acc → acc = (row.map fun i => (toString i : Str)).map V.str := by
            intro row
            induction row with
            | nil =>
              intro acc p
              cases p
              rfl
            | cons n row ih =>
              intro acc p
              cases p with
              | cons a b =>
                obtain ⟨m, e1, e2⟩ := a
                cases e1
                rw [e2, ih b]
                rfl
          exact g pr3
        subst e
        exact ⟨_, D2, _, rfl, rfl, .inl (SqL.of hacc3), J.j1 row hrow, hy _ _ s3 ⟨a, row, rfl, hra, rfl⟩⟩
    · have e : acc = (rows.map fun row => Txt.join " " (row.map fun i => (toString i : Str))).map V.str := by
        have g : ∀ {rs : List Addr} {rows : List (List Int)} {acc : List V}, Paired (fun a row => H a = some (.tup (row.map V.int))) rs rows → Paired (fun x y => ∃ (a : Addr) (row : List Int), x = V.ref a ∧ H a = some (.tup (row.map V.int)) ∧ y = V.str (Txt.join " " (row.map fun i => (toString i : Str)))) (rs.map V.ref) acc →
            acc = (rows.map fun row => Txt.join " " (row.map fun i => (toString i : Str))).map V.str := by
          intro rs
          induction rs with
          | nil =>
            intro rows acc p1 p2
            cases p1
            cases p2
            rfl
          | cons a rs ih =>
            intro rows acc p1 p2
            cases p1 with
            | cons a1 b1 =>
              cases p2 with
              | cons a2 b2 =>
                obtain ⟨a', row', e1, e2, e3⟩ := a2
                cases e1
                rw [a1] at e2
                have e4 : ∀ {xs ys : List Int}, xs.map V.int = ys.map V.int → xs = ys := by
                  intro xs
                  induction xs with
                  | nil =>
                    intro ys e
                    cases ys with
                    | nil => rfl
                    | cons => cases e
                  | cons x xs ih =>
                    intro ys e
                    cases ys with
                    | nil => cases e
                    | cons y ys =>
                      have h1 : V.int x = V.int y := (List.cons.inj e).1
                      have h2 := ih (List.cons.inj e).2
                      cases h1
                      rw [h2]
                have e5 := e4 (show _ = _ by simpa using e2)
                rw [e3, ih b1 b2, ← e5]
                rfl
        exact g hp pr
      subst e
      exact ⟨_, D, _, rfl, rfl, .inl (SqL.of hacc), J.j2, q _ s2⟩
theorem scCheckT : FnScope ["value"] ["value"] (defScope sCheckT) := ⟨rfl, rfl, rfl, by decide +kernel, rfl, by decide +kernel, by decide +kernel⟩
def spCheckT (CT : Addr) : Sp := fun vs H Q _ => ∃ (t dx : Addr) (fs : List (Str × V)), vs = [.ref t] ∧ H t = some (.ins CT dx fs) ∧ Q .non H
theorem ok_checkT (F : L2.Fun K "check_table" "check_table" sCheckT f fd) (hm : mg "check_table" = some (.ref f)) (T : TbT K mg CT) (B : Bt mg) : C8.Cal P w K mg base 1 "check_table" (spCheckT CT) [] := by
  refine cal_mk F hm scCheckT (fun _ _ _ _ _ _ us hl => match us, hl with | [_], _ => rfl) (fun vs H Q E h => ?_) (fun cdv A outer s H vs Q E hr h => ?_)
  · obtain ⟨t, dx, fs, rfl, _⟩ := h
    rfl
  · obtain ⟨t, dx, fs, rfl, ht, q⟩ := h
    refine ⟨_, pss_one (ps_if (pt_not (pt_val (pe_callB (C8.call_isC T.ins) (by rfl) B.isi (by decide +kernel) (pa_cons (pv 0) (pa_cons (pe_glob (v := .ref CT) (by rfl) T.mgT rfl) pa_nil))))) (pss_one ps_never) pss_nil), ?_⟩
    exact ⟨_, rfl, t, dx, fs, rfl, ht, true, rfl, iteF q⟩
end
end Ky
end

section
set_option Elab.async false
set_option linter.all false
set_option maxRecDepth 100000
set_option maxHeartbeats 2000000
namespace Ky
open PySem PySem.Spec PyProof.Rows L2
open PySem.W (dataLe dataLt)
/-- the subsets in sets_of's making -/
def setsL : Nat → List (List Int)
  | 0 => [[]]
  | n + 1 => setsL n ++ (setsL n).map fun ns => ns ++ [(n : Int)]
theorem int_map_inj : ∀ {xs ys : List Int}, xs.map V.int = ys.map V.int → xs = ys
  | [], [], _ => rfl
  | [], _ :: _, e => by cases e
  | _ :: _, [], e => by cases e
  | x :: xs, y :: ys, e => by
    have e1 : V.int x = V.int y := (List.cons.inj e).1
    have e2 := int_map_inj (List.cons.inj e).2
    cases e1
    rw [e2]
open Classical in
/-- the whole numbers of the tuple that x is -/
noncomputable def gOf (H : Hp) (x : V) : List Int := if h : ∃ ns : List Int, ∃ t : Addr, x = V.ref t ∧ H t = some (.tup (ns.map V.int)) then h.choose else []
theorem gOf_eq {H : Hp} {t : Addr} {ns : List Int} (h : H t = some (.tup (ns.map V.int))) : gOf H (.ref t) = ns := by
  have e : ∃ ns : List Int, ∃ t' : Addr, V.ref t = V.ref t' ∧ H t' = some (.tup (ns.map V.int)) := ⟨ns, t, rfl, h⟩
  unfold gOf
  rw [dif_pos e]
  obtain ⟨t', e1, e2⟩ := e.choose_spec
  cases e1
  rw [h] at e2
  exact (int_map_inj (show _ = _ by simpa using e2)).symm
theorem gmap {H : Hp} : ∀ {ts : List Addr} {ls : List (List Int)}, Paired (fun t ns => H t = some (.tup (ns.map V.int))) ts ls → ts.map (gOf H ∘ V.ref) = ls
  | _, _, .nil => rfl
  | _, _, .cons a b => by
    rw [List.map_cons, gmap b]
    show gOf H (.ref _) :: _ = _
    rw [gOf_eq a]
theorem all_refs : ∀ {xs : List V}, (∀ x ∈ xs, ∃ t : Addr, x = V.ref t) → ∃ us : List Addr, xs = us.map V.ref
  | [], _ => ⟨[], rfl⟩
  | x :: xs, h => by
    obtain ⟨t, e⟩ := h x List.mem_cons_self
    obtain ⟨us, e2⟩ := all_refs fun y hy => h y (List.mem_cons_of_mem _ hy)
    exact ⟨t :: us, by rw [e, e2]; rfl⟩
theorem paired_self {α β : Type} {F : α → β → Prop} {g : α → β} : ∀ {l : List α}, (∀ a ∈ l, F a (g a)) → Paired F l (l.map g)
  | [], _ => .nil
  | a :: l, h => .cons (h a List.mem_cons_self) (paired_self fun b hb => h b (List.mem_cons_of_mem _ hb))
theorem paired_mapr {α β γ : Type} {F : α → γ → Prop} {g : β → γ} : ∀ {l : List α} {m : List β}, Paired (fun a b => F a (g b)) l m → Paired F l (m.map g)
  | _, _, .nil => .nil
  | _, _, .cons a b => .cons a (paired_mapr b)
theorem paired_app {α β : Type} {F : α → β → Prop} : ∀ {l l' : List α} {m m' : List β}, Paired F l m → Paired F l' m' → Paired F (l ++ l') (m ++ m')
  | _, _, _, _, .nil, h => h
  | _, _, _, _, .cons a b, h => .cons a (paired_app b h)
theorem setsL_nil : ∀ n, [] ∈ setsL n
  | 0 => List.mem_singleton.mpr rfl
  | n + 1 => List.mem_append_left _ (setsL_nil n)
theorem setsL_len : ∀ n, n ≤ 5 → (setsL n).length ≤ 32 := by decide
theorem setsL_len1 : ∀ n, n ≤ 5 → ∀ ns ∈ setsL n, ns.length ≤ 5 := by decide
theorem rank_first {H : Hp} {x y : V} (hx : gOf H x = []) (hy : gOf H y ≠ []) : dataLt (kRank (gOf H) x) (kRank (gOf H) y) = true := by
  unfold kRank
  rw [hx, PySem.W.dataLt_pair (by simp [PySem.W.alike]) (by simp [PySem.W.alike, PySem.W.alikeAll])]
  have hl : 0 < (gOf H y).length := List.length_pos_iff.mpr hy
  have e : PyData.eqv (.int (([] : List Int).length : Nat)) (.int ((gOf H y).length : Nat)) = false := by
    simp only [PyData.eqv, List.length_nil]
    rw [beq_eq_false_iff_ne]
    omega
  rw [if_neg (by rw [e]; decide), PySem.W.dataLt_int]
  exact decide_eq_true (by simp only [List.length_nil]; omega)
section
variable {P : Program} {w : World} {K : PySem.W.Frag} {mg : Str → Option Value} {base : Heap} {f : Addr} {fd : FuncData}
theorem scSets : FnScope ["many", "found", "place", "lot"] ["many"] (defScope sSets) := ⟨rfl, rfl, rfl, by decide +kernel, rfl, by decide +kernel, by decide +kernel⟩
def spSets : Sp := fun vs H Q _ => ∃ n : Nat, vs = [.int n] ∧ n ≤ 5 ∧ ∀ (H' : Hp) (l : Addr) (ts : List Addr) (lots : List (List Int)), Same H H' → H' l = some (.lst (ts.map V.ref)) → Paired (fun t ns => H' t = some (.tup (ns.map V.int))) ts lots → lots.Perm (setsL n) → lots.head? = some [] → Q (.ref l) H'
theorem ok_sets {fR : Addr} {fdR : FuncData} (F : L2.Fun K "sets_of" "sets_of" sSets f fd) (hm : mg "sets_of" = some (.ref f)) (B : Bt mg) (FR : L2.Fun K "rank_of" "rank_of" sRank fR fdR) (hR : mg "rank_of" = some (.ref fR)) : C8.Cal P w K mg base 1 "sets_of" spSets [] := by
  refine cal_mk F hm scSets (fun _ _ _ _ _ _ us hl => match us, hl with | [_], _ => rfl) (fun vs H Q E h => ?_) (fun cdv A outer s H vs Q E hr h => ?_)
  · obtain ⟨n, rfl, _⟩ := h
    rfl
  · obtain ⟨n, rfl, hn, q⟩ := h
    refine ⟨_, pss_cons (ps_set (i := 1) scSets.nd rfl (Or.inl rfl) (pe_lst (pa_cons (pe_tup pa_nil) pa_nil)))
      (pss_cons (ps_for PassesOwn.never rfl (pi_range1 (by rfl) B.range (pa_cons (pv 0) pa_nil)) (pg_name (i := 2) scSets.nd rfl (Or.inr rfl))
        (pss_one (ps_set (i := 1) scSets.nd rfl (Or.inl rfl) (pe_lst (StX.pa_star (pv 1) (StX.pa_star
          (pe_lc (te := tTup (StX.tStar K (tVar 3) (tCons (tVar 2) tNil))) (own := [("lot", 3)]) (g := gName 3) (tt := tYes) rfl scSets.nd (pi_list (pv 1)) (blkOk_by (N := ["many", "found", "place", "lot"]) (sc := defScope sSets) (by decide +kernel)) (fun _ _ _ _ _ => pg_name (i := 3) scSets.nd rfl (Or.inl rfl)) (fun _ _ _ _ _ => pts_nil)
            (fun _ _ _ _ _ => pe_tup (StX.pa_star (pv 3) (pa_cons (pv 2) pa_nil)))) pa_nil))))))
      (pss_one (ps_ret (pe_callBK (cr_sortedRank FR B.len hr) (by rfl) B.sorted boot_sorted (pa_cons (pv 1) pa_nil) (pk_cons (pe_glob (v := .ref fR) (by rfl) hR rfl) pk_nil))))), ?_⟩
    refine ⟨Nat.zero_le _, fun t0 ht0 => ⟨by show 1 ≤ sizeLine; decide, fun l0 hl0 => ?_⟩⟩
    have s1 : Same H (upd (upd H t0 (.tup [])) l0 (.lst [.ref t0])) := (same_new ht0).new hl0
    refine ⟨_, rfl, n, rfl, by omega, by omega, ?_⟩
    refine for_range (lo := 0) (n := ((n : Nat) : Int).toNat) (fun i σ H' => Same H H' ∧ ∃ (l : Addr) (ts : List Addr) (v2 : Option V), σ = [some (.int n), some (.ref l), v2, none] ∧ H' l = some (.lst (ts.map V.ref)) ∧ Paired (fun t ns => H' t = some (.tup (ns.map V.int))) ts (setsL i))
      ⟨s1, l0, [t0], none, rfl, upd_same, .cons (by rw [upd_ne (ne_of_none upd_same hl0)]; exact upd_same) .nil⟩ ?_ ?_
    · rintro i σ H1 hi ⟨s2, l, ts, v2, rfl, hl, hp⟩
      have hin : i < n := by simpa using hi
      have hts : ts.length ≤ 32 := by rw [paired_len hp]; exact setsL_len i (by omega)
      refine ⟨_, rfl, l, _, rfl, .inr (SqL.of hl), ?_⟩
      refine ⟨_, rfl, l, rfl, ⟨_, SqL.of hl⟩, fun D hD => ?_⟩
      refine lcM (walk_list (K := K) (a := l) (xs := ts.map V.ref)) (fun x y H' => ∃ b : Addr, y = .ref b ∧ ∃ t ns, x = .ref t ∧ H1 t = some (.tup (ns.map V.int)) ∧ H' b = some (.tup ((ns ++ [(i : Int)]).map V.int))) (by rintro x y H2 H3 ⟨b, e1, t, ns, e2, e3, e4⟩ s; exact ⟨b, e1, t, ns, e2, e3, s _ _ e4⟩) (fun H2 s3 => SqL.of (s3 _ _ hl)) hD (by rw [List.length_map]; omega) (fun j x H2 Ny hx s3 hacc hy => ?_) (fun H2 acc s3 hacc pr => ?_)
      · obtain ⟨t, ht, rfl⟩ : ∃ t, t ∈ ts ∧ V.ref t = x := List.mem_map.mp (List.mem_of_getElem? hx)
        obtain ⟨ns, hns, e⟩ := paired_left hp ht
        have hl5 := setsL_len1 i (by omega) ns hns
        refine ⟨rfl, _, rfl, t, _, rfl, .inl (SqT.of (s3 _ _ e)), _, rfl, ?_, fun b hb => ?_⟩
        · rw [List.length_append, List.length_map]
          exact le_line (by show ns.length + 1 ≤ 100000; omega)
        · obtain ⟨acc0, hacc0⟩ := hacc
          refine hy _ _ (same_new hb) ⟨b, rfl, t, ns, rfl, e, ?_⟩
          rw [del_ne (Ne.symm (ne_of_none hacc0 hb)), upd_same, List.map_append]
          have e0 : (0 : Int) + (i : Int) = (i : Int) := by omega
          rw [e0]
          rfl
      · have pq : Paired (fun (ns : List Int) (y : V) => ∃ b, y = V.ref b ∧ H2 b = some (.tup ((ns ++ [(i : Int)]).map V.int))) (setsL i) acc := by
          have pj := paired_join (paired_map_l pr) hp
          refine paired_swap (paired_mono pj fun y ns _ ⟨t, _, ⟨b, e1, t', ns', e2, e3, e4⟩, e5⟩ => ?_)
          cases e2
          rw [e3] at e5
          have e6 : ns' = ns := int_map_inj (show _ = _ by simpa using e5)
          subst e6
          exact ⟨b, e1, same_del _ _ e4⟩
        obtain ⟨bs, ebs, pbs⟩ := paired_refs pq
        subst ebs
        refine ⟨D, _, rfl, .inr (SqL.of hacc), ?_, fun l' hl' => ?_⟩
        · rw [List.append_nil, List.length_append, List.length_map, List.length_map, paired_len pbs]
          have := setsL_len i (by omega)
          exact le_line (by omega)
        · refine ⟨(s2.trans s3).new hl', l', ts ++ bs, _, rfl, ?_, ?_⟩
          · rw [upd_same, List.append_nil, List.map_append]
          · have p1 : Paired (fun t ns => upd H2 l' (HO.lst (ts.map V.ref ++ (bs.map V.ref ++ []))) t = some (.tup (ns.map V.int))) ts (setsL i) := paired_mono hp fun t ns _ e => same_new hl' _ _ (s3 _ _ e)
            have p2 : Paired (fun t ns => upd H2 l' (HO.lst (ts.map V.ref ++ (bs.map V.ref ++ []))) t = some (.tup (ns.map V.int))) bs ((setsL i).map fun ns => ns ++ [(i : Int)]) := paired_mapr (paired_mono pbs fun t ns _ e => same_new hl' _ _ e)
            exact paired_app p1 p2
    · rintro σ H1 ⟨s2, l, ts, v2, rfl, hl, hp⟩
      have hp : Paired (fun t ns => H1 t = some (.tup (ns.map V.int))) ts (setsL n) := by simpa using hp
      have hg : ∀ t ∈ ts, ∃ ns, ns ∈ setsL n ∧ H1 t = some (.tup (ns.map V.int)) ∧ gOf H1 (.ref t) = ns := fun t ht => by
        obtain ⟨ns, h1, h2⟩ := paired_left hp ht
        exact ⟨ns, h1, h2, gOf_eq h2⟩
      refine ⟨_, rfl, l, ts.map V.ref, gOf H1, rfl, rfl, SqL.of hl, fun x hx => ?_, fun p hpn => ?_⟩
      · obtain ⟨t, ht, rfl⟩ := List.mem_map.mp hx
        obtain ⟨ns, h1, h2, h3⟩ := hg t ht
        rw [h3]
        exact ⟨t, rfl, h2, by have := setsL_len1 n hn ns h1; omega⟩
      · have hperm := sort_perm (kRank (gOf H1)) (ts.map V.ref)
        have hpair := sort_pair (kRank (gOf H1)) (ts.map V.ref)
        have hmem : ∀ x ∈ (ts.map V.ref).mergeSort (dataLe false (kRank (gOf H1))), ∃ t, t ∈ ts ∧ x = V.ref t := fun x hx => by
          obtain ⟨t, h1, h2⟩ := List.mem_map.mp (hperm.mem_iff.mp hx)
          exact ⟨t, h1, h2.symm⟩
        have hall : (ts.map V.ref).map (gOf H1) = setsL n := by
          rw [List.map_map]
          exact gmap hp
        have hfst : (((ts.map V.ref).mergeSort (dataLe false (kRank (gOf H1)))).map (gOf H1)).head? = some [] := by
          have hin : ([] : List Int) ∈ ((ts.map V.ref).mergeSort (dataLe false (kRank (gOf H1)))).map (gOf H1) := by
            rw [(hperm.map (gOf H1)).mem_iff, hall]
            exact setsL_nil n
          cases hz : (ts.map V.ref).mergeSort (dataLe false (kRank (gOf H1))) with
          | nil => rw [hz] at hin; cases hin
          | cons z zs =>
            rw [hz] at hin hpair
            by_cases e : gOf H1 z = []
            · rw [List.map_cons, e]; rfl
            · rw [List.map_cons] at hin
              rcases List.mem_cons.mp hin with h | h
              · exact absurd h.symm e
              · obtain ⟨y, hy, ey⟩ := List.mem_map.mp h
                have h1 := (List.pairwise_cons.mp hpair).1 y hy
                rw [rank_first ey e] at h1
                cases h1
        have hperm2 : (((ts.map V.ref).mergeSort (dataLe false (kRank (gOf H1)))).map (gOf H1)).Perm (setsL n) := hall ▸ hperm.map (gOf H1)
        obtain ⟨us, eus⟩ : ∃ us : List Addr, (ts.map V.ref).mergeSort (dataLe false (kRank (gOf H1))) = us.map V.ref := all_refs fun x hx => (hmem x hx).imp fun t h => h.2
        refine q _ p us _ (s2.new hpn) (by rw [upd_same, eus]) ?_ hperm2 hfst
        rw [eus, List.map_map]
        refine paired_self fun t ht => ?_
        obtain ⟨t', h1, h2⟩ := hmem (.ref t) (by rw [eus]; exact List.mem_map.mpr ⟨t, ht, rfl⟩)
        cases h2
        obtain ⟨ns, _, h3, h4⟩ := hg t h1
        show upd H1 p _ t = some (.tup ((gOf H1 (.ref t)).map V.int))
        rw [h4]
        exact same_new hpn _ _ h3
end
end Ky
end

section
set_option Elab.async false
set_option linter.all false
set_option maxRecDepth 100000
set_option maxHeartbeats 2000000
namespace Ky
open PySem PySem.Spec PyProof.Rows L2
/-! data that may be compared -/
def Shp (n : Nat) (d : PyData) : Prop := d.canLay0 = true ∧ d.depth ≤ n
theorem Shp.int {n : Nat} (i : Int) : Shp n (.int i) := ⟨by simp [PyData.canLay0], by simp [PyData.depth]⟩
theorem shp_all {n : Nat} : ∀ {ds : List PyData}, (∀ d ∈ ds, Shp n d) → PyData.canLayAll0 ds = true ∧ PyData.depthAll ds ≤ n
  | [], _ => ⟨by simp [PyData.canLayAll0], by simp [PyData.depthAll]⟩
  | d :: ds, h => by
    obtain ⟨h1, h2⟩ := h d List.mem_cons_self
    obtain ⟨h3, h4⟩ := shp_all fun e he => h e (List.mem_cons_of_mem _ he)
    exact ⟨by simp [PyData.canLayAll0, h1, h3], by rw [PyData.depthAll]; exact Nat.max_le.mpr ⟨h2, h4⟩⟩
theorem Shp.list {n : Nat} {ds : List PyData} (h : ∀ d ∈ ds, Shp n d) : Shp (n + 1) (.list ds) := by
  obtain ⟨h1, h2⟩ := shp_all h
  exact ⟨by simp [PyData.canLay0, h1], by rw [PyData.depth]; omega⟩
theorem Shp.tuple {n : Nat} {ds : List PyData} (h : ∀ d ∈ ds, Shp n d) : Shp (n + 1) (.tuple ds) := by
  obtain ⟨h1, h2⟩ := shp_all h
  exact ⟨by simp [PyData.canLay0, h1], by rw [PyData.depth]; omega⟩
theorem Shp.mono {m n : Nat} {d : PyData} (h : Shp m d) (l : m ≤ n) : Shp n d := ⟨h.1, Nat.le_trans h.2 l⟩
theorem Shp.shaped {n : Nat} {d : PyData} (h : Shp n d) (l : n ≤ 64) : SeqAt.shaped d = true := by
  unfold SeqAt.shaped
  rw [h.1, decide_eq_true (Nat.le_trans h.2 l)]
  rfl
theorem dp_ints {K : PySem.W.Frag} {H : Hp} : ∀ (ns : List Int), DpAll K H (ns.map V.int) (ns.map PyData.int)
  | [] => .nil
  | n :: ns => .cons (.int n) (dp_ints ns)
/-! slices -/
theorem cutV_to (xs : List V) (k : Nat) : cutV xs none (some (k : Int)) = xs.take k := by
  unfold cutV
  rw [HT.sIx_none, HT.sIx_nat, List.drop_zero, Nat.sub_zero]
  by_cases h : k ≤ xs.length
  · rw [Nat.min_eq_left h]
  · rw [Nat.min_eq_right (by omega), List.take_of_length_le (Nat.le_refl _), List.take_of_length_le (by omega)]
theorem cutV_from (xs : List V) (k : Nat) : cutV xs (some (k : Int)) none = xs.drop k := by
  unfold cutV
  rw [HT.sIx_none, HT.sIx_nat]
  by_cases h : k ≤ xs.length
  · rw [Nat.min_eq_left h, List.take_of_length_le (by rw [List.length_drop]; omega)]
  · rw [Nat.min_eq_right (by omega), List.drop_of_length_le (Nat.le_refl _), List.drop_of_length_le (by omega)]
    simp
/-! matrices -/
def MatL (H : Hp) (p : Addr) (m : List (List Int)) : Prop := ∃ ps : List Addr, H p = some (.lst (ps.map V.ref)) ∧ Paired (fun a row => H a = some (.lst (row.map V.int))) ps m
theorem MatL.same {H H' : Hp} {p : Addr} {m : List (List Int)} (h : MatL H p m) (s : Same H H') : MatL H' p m := by
  obtain ⟨ps, h1, h2⟩ := h
  exact ⟨ps, s _ _ h1, paired_mono h2 fun a row _ e => s _ _ e⟩
def cutM (rows : List (List Int)) (ns : List Int) : List (List Int) := ns.map fun i => ns.map fun j => ((rows.getD i.toNat []).getD j.toNat 0)
section
variable {P : Program} {w : World} {K : PySem.W.Frag} {mg : Str → Option Value} {base : Heap} {f : Addr} {fd : FuncData}
theorem scCut : FnScope ["rows", "lot", "place", "spot"] ["rows", "lot"] (defScope sCut) := ⟨rfl, rfl, rfl, by decide +kernel, rfl, by decide +kernel, by decide +kernel⟩
def spCut : Sp := fun vs H Q _ => ∃ (r lot : Addr) (rows : List (List Int)) (ns : List Int), vs = [.ref r, .ref lot] ∧ RowsAt H r rows ∧ H lot = some (.tup (ns.map V.int)) ∧ ns.length ≤ 100 ∧ (∀ n ∈ ns, 0 ≤ n ∧ n < rows.length) ∧ (∀ row ∈ rows, row.length = rows.length) ∧
  ∀ (H' : Hp) (p : Addr), Same H H' → MatL H' p (cutM rows ns) → Q (.ref p) H'
def lcInner : Scope → List Stmt → Scope
  | s, [.Return (some (.ListComp _ _ sc _)) _] => sc
  | s, _ => s
abbrev cutOut : Scope := relS (lcInner (defScope sCut) (defBody sCut)) (defScope sCut)
theorem atI_of {α : Type} {xs : List α} {i : Int} {v : α} (h0 : 0 ≤ i) (h : xs[i.toNat]? = some v) : atI xs i = some v := by
  obtain ⟨n, rfl⟩ := Int.eq_ofNat_of_zero_le h0
  exact atI_nat (by simpa using h)
theorem atI_int {xs : List Int} {i : Int} (h0 : 0 ≤ i) (h1 : i < xs.length) : atI (xs.map V.int) i = some (.int (xs.getD i.toNat 0)) := by
  refine atI_of h0 ?_
  have hlt : i.toNat < xs.length := by omega
  rw [List.getElem?_map, List.getElem?_eq_getElem hlt]
  simp [List.getD, List.getElem?_eq_getElem hlt]
theorem ok_cut (F : L2.Fun K "cut" "cut" sCut f fd) (hm : mg "cut" = some (.ref f)) : C8.Cal P w K mg base 1 "cut" spCut [] := by
  refine cal_mk F hm scCut (fun _ _ _ _ _ _ us hl => match us, hl with | [_, _], _ => rfl) (fun vs H Q E h => ?_) (fun cdv A outer s H vs Q E hr h => ?_)
  · obtain ⟨r, lot, rows, ns, rfl, _⟩ := h
    rfl
  · obtain ⟨r, lot, rows, ns, rfl, ⟨rs, hR, hp⟩, hlot, hz, hin, hsq, q⟩ := h
    refine ⟨_, pss_one (ps_ret
        (pe_lc (te := tLc (iTup K (tVar 1)) (gName 3) tYes (tOp (rIxT K) (tOp (rIxT K) (tVar 0) (tVar 2)) (tVar 3)) [3]) (own := [("place", 2)]) (g := gName 2) (tt := tYes) rfl scCut.nd (pi_tup (pv 1)) (blkOk_by (N := ["rows", "lot", "place", "spot"]) (sc := defScope sCut) (by decide +kernel)) (fun _ _ _ _ _ => pg_name (i := 2) scCut.nd rfl (Or.inr rfl)) (fun _ _ _ _ _ => pts_nil)
          (fun _ _ _ _ _ => pe_lc (wi := iTup K (tVar 1)) (te := tOp (rIxT K) (tOp (rIxT K) (tVar 0) (tVar 2)) (tVar 3)) (own := [("spot", 3)]) (g := gName 3) (tt := tYes) rfl scCut.nd (pi_tup (pv 1)) (blkOk_by (N := ["rows", "lot", "place", "spot"]) (sc := cutOut) (by decide +kernel)) (fun _ _ _ _ _ => pg_name (i := 3) scCut.nd rfl (Or.inl rfl)) (fun _ _ _ _ _ => pts_nil)
            (fun _ _ _ _ _ => pe_ix ix_tup (pe_ix ix_tup (pv 0) (pv 2) (fun _ _ => rfl)) (pv 3) (fun _ _ => rfl))))), ?_⟩
    refine ⟨_, rfl, lot, rfl, ⟨_, SqT.of hlot⟩, fun D hD => ?_⟩
    refine lcM (walk_tup (K := K) (a := lot) (xs := ns.map V.int)) (fun x y H' => ∃ b : Addr, y = .ref b ∧ ∃ i : Int, x = .int i ∧ H' b = some (.lst ((ns.map fun j => ((rows.getD i.toNat []).getD j.toNat 0)).map V.int))) (by rintro x y H1 H2 ⟨b, e1, i, e2, e3⟩ s; exact ⟨b, e1, i, e2, s _ _ e3⟩) (fun H1 s1 => SqT.of (s1 _ _ hlot)) hD (by rw [List.length_map]; omega) (fun k x H1 Ny hx s1 hacc hy => ?_) (fun H1 acc s1 hacc pr => ?_)
    · obtain ⟨i, hi, rfl⟩ : ∃ i, i ∈ ns ∧ V.int i = x := List.mem_map.mp (List.mem_of_getElem? hx)
      obtain ⟨i0, i1⟩ := hin i hi
      have hlt : i.toNat < rows.length := by omega
      have hrl : rs.length = rows.length := paired_len hp
      have hri : rs[i.toNat]? = some (rs[i.toNat]'(by omega)) := List.getElem?_eq_getElem (by omega)
      obtain ⟨row, hrow, hra⟩ := paired_get2 hp hri
      have hrowlen := hsq row (List.mem_of_getElem? hrow)
      have eg : rows.getD i.toNat [] = row := by simp [List.getD, hrow]
      refine ⟨rfl, _, rfl, lot, rfl, ⟨_, SqT.of (s1 _ _ hlot)⟩, fun D2 hD2 => ?_⟩
      refine lcM (walk_tup (K := K) (a := lot) (xs := ns.map V.int)) (fun x y _ => ∃ j : Int, x = .int j ∧ y = .int ((rows.getD i.toNat []).getD j.toNat 0)) (fun _ _ _ _ r _ => r) (fun H2 s2 => SqT.of (s2 _ _ (s1 _ _ hlot))) hD2 (by rw [List.length_map]; omega) (fun k2 x H2 Ny2 hx2 s2 _ hy2 => ?_) (fun H2 acc2 s2 hacc2 pr2 => ?_)
      · obtain ⟨j, hj, rfl⟩ : ∃ j, j ∈ ns ∧ V.int j = x := List.mem_map.mp (List.mem_of_getElem? hx2)
        obtain ⟨j0, j1⟩ := hin j hj
        have hR2 := s2 _ _ (s1 _ _ hR)
        have hra2 := s2 _ _ (s1 _ _ hra)
        refine ⟨rfl, _, rfl, _, rfl, r, _, i, .ref (rs[i.toNat]'(by omega)), rfl, rfl, SqT.of hR2, ?_, _, rfl, _, _, j, _, rfl, rfl, SqT.of hra2, atI_int j0 (by omega), ?_⟩
        · exact atI_of i0 (by rw [List.getElem?_map, hri]; rfl)
        · exact hy2 _ _ (Same.refl _) ⟨j, rfl, by rw [eg]⟩
      · have e : acc2 = (ns.map fun j => ((rows.getD i.toNat []).getD j.toNat 0)).map V.int := by
          have g : ∀ {ns : List Int} {acc : List V}, Paired (fun x y => ∃ j : Int, x = V.int j ∧ y = V.int ((rows.getD i.toNat []).getD j.toNat 0)) (ns.map V.int) acc → acc = (ns.map fun j => ((rows.getD i.toNat []).getD j.toNat 0)).map V.int := by
            intro ns
            induction ns with
            | nil =>
              intro acc p
              cases p
              rfl
            | cons n ns ih =>
              intro acc p
              cases p with
              | cons a b =>
                obtain ⟨m, e1, e2⟩ := a
                cases e1
                rw [e2, ih b]
                rfl
          exact g pr2
        subst e
        obtain ⟨acc0, hacc0⟩ := hacc
        exact hy _ _ s2 ⟨D2, rfl, i, rfl, by rw [del_ne (Ne.symm (ne_of_none hacc0 hD2))]; exact hacc2⟩
    · have pk : Paired (fun (row : List Int) (y : V) => ∃ b, y = V.ref b ∧ H1 b = some (.lst (row.map V.int))) (cutM rows ns) acc := by
        unfold cutM
        refine paired_swap (paired_mapr (paired_swap (paired_mono (paired_map_l pr) fun i y _ ⟨b, e1, i', e2, e3⟩ => ?_)))
        cases e2
        exact ⟨b, e1, same_del _ _ e3⟩
      obtain ⟨bs, ebs, pbs⟩ := paired_refs pk
      subst ebs
      exact q _ D s1 ⟨bs, hacc, pbs⟩
end
end Ky
end

section
set_option Elab.async false
set_option linter.all false
set_option maxRecDepth 100000
set_option maxHeartbeats 2000000
namespace Ky
open PySem PySem.Spec PyProof.Rows L2
/-! determinant -/
def minor (i : Nat) (rows : List (List Int)) : List (List Int) := rows.map fun row => row.take i ++ row.drop (i + 1)
def detS (rec : List (List Int) → Int) (rows : List (List Int)) : Nat → Int
  | 0 => 0
  | i + 1 => if (rows.headD []).getD i 0 = 0 then detS rec rows i else detS rec rows i + (if i % 2 = 1 then -((rows.headD []).getD i 0) else (rows.headD []).getD i 0) * rec (minor i rows.tail)
def detF : Nat → List (List Int) → Int
  | 0, _ => 1
  | n + 1, rows => detS (detF n) rows (n + 1)
/-- an n by n matrix of small whole numbers -/
def SqM (n : Nat) (m : List (List Int)) : Prop := m.length = n ∧ ∀ row ∈ m, row.length = n ∧ ∀ x ∈ row, -1000 ≤ x ∧ x ≤ 1000
theorem SqM.minor {n i : Nat} {m : List (List Int)} (h : SqM (n + 1) m) (hi : i < n + 1) : SqM n (minor i m.tail) := by
  obtain ⟨h1, h2⟩ := h
  refine ⟨by unfold Ky.minor; rw [List.length_map, List.length_tail]; omega, fun row hrow => ?_⟩
  obtain ⟨r0, hr0, rfl⟩ := List.mem_map.mp hrow
  obtain ⟨h3, h4⟩ := h2 r0 (List.mem_of_mem_tail hr0)
  refine ⟨by rw [List.length_append, List.length_take, List.length_drop]; omega, fun x hx => h4 x ?_⟩
  rcases List.mem_append.mp hx with h | h
  · exact List.mem_of_mem_take h
  · exact List.mem_of_mem_drop h
section
variable {P : Program} {w : World} {K : PySem.W.Frag} {mg : Str → Option Value} {base : Heap} {f : Addr} {fd : FuncData}
theorem scDet : FnScope ["rows", "found", "place", "lead", "rest", "row"] ["rows"] (defScope sDet) := ⟨rfl, rfl, rfl, by decide +kernel, rfl, by decide +kernel, by decide +kernel⟩
def spDet (n : Nat) : Sp := fun vs H Q _ => ∃ (p : Addr) (m : List (List Int)), vs = [.ref p] ∧ MatL H p m ∧ SqM n m ∧ ∀ H', Same H H' → Q (.int (detF n m)) H'
theorem mat_dp {H : Hp} : ∀ {ps : List Addr} {m : List (List Int)}, Paired (fun a row => H a = some (.lst (row.map V.int))) ps m → DpAll K H (ps.map V.ref) (m.map fun row => .list (row.map .int))
  | _, _, .nil => .nil
  | _, _, .cons a b => .cons (.lst (SqL.of a) (dp_ints _)) (mat_dp b)
theorem mat_shp {m : List (List Int)} : Shp 2 (.list (m.map fun row => .list (row.map .int))) := by
  refine Shp.list fun d hd => ?_
  obtain ⟨row, _, rfl⟩ := List.mem_map.mp hd
  refine Shp.list fun d hd => ?_
  obtain ⟨i, _, rfl⟩ := List.mem_map.mp hd
  exact .int i
theorem det_fn (F : L2.Fun K "determinant" "determinant" sDet f fd) (hm : mg "determinant" = some (.ref f)) (B : Bt mg) : ∀ n, n ≤ 5 → FnOk P w K mg base L2.CX0 (n + 1) f fd ["rows"] (spDet n) := by
  intro n
  induction n with
  | zero =>
    intro _
    refine F.ok scDet (fun vs H Q E h => ?_) (fun cdv A outer s H vs Q E hr h => ?_)
    · obtain ⟨p, m, rfl, _⟩ := h
      rfl
    · obtain ⟨p, m, rfl, ⟨ps, hL, hp⟩, ⟨h1, _⟩, q⟩ := h
      have em : m = [] := List.length_eq_zero_iff.mp h1
      subst em
      cases hp
      refine ⟨_, pss_cons (ps_if (pt_cmpR (op_eqD hr.units) (pv 0) (pe_lst pa_nil) (nomark _)) (pss_one (ps_ret pe_int)) pss_nil) pss_never, ?_⟩
      refine ⟨_, rfl, Nat.zero_le _, fun l hl => ?_⟩
      refine ⟨.list [], .list [], .lst (SqL.of (same_new hl _ _ hL)) .nil, .lst (SqL.of upd_same) .nil, (Shp.list (n := 0) (fun d hd => by cases hd)).shaped (by decide), (Shp.list (n := 0) (fun d hd => by cases hd)).shaped (by decide), _, rfl, ?_⟩
      refine ifY (by simp [PyData.eqv, PyData.eqvAll]) ?_
      exact q _ (same_new hl)
  | succ n ih =>
    intro hn
    have G := ih (by omega)
    have bG : L2.Binds K fd ["rows"] [] := F.binds fun _ _ _ _ _ _ us hl => match us, hl with | [_], _ => rfl
    refine F.ok scDet (fun vs H Q E h => ?_) (fun cdv A outer s H vs Q E hr h => ?_)
    · obtain ⟨p, m, rfl, _⟩ := h
      rfl
    · obtain ⟨p, m, rfl, ⟨ps, hL, hp⟩, hS, q⟩ := h
      obtain ⟨h1, h2⟩ := hS
      refine ⟨_, pss_cons (ps_if (pt_cmpR (op_eqD hr.units) (pv 0) (pe_lst pa_nil) (nomark _)) (pss_one (ps_ret pe_int)) pss_nil)
        (pss_cons (ps_set (i := 1) scDet.nd rfl (Or.inl rfl) pe_int)
        (pss_cons (ps_for PassesOwn.never rfl (pi_enum (by rfl) B.enum (pa_cons (pe_ix ix_list (pv 0) pe_int (fun _ _ => rfl)) pa_nil)) (pg_tup rfl (pgs_cons (pg_name (i := 2) scDet.nd rfl (.inr rfl)) (pgs_cons (pg_name (i := 3) scDet.nd rfl (.inl rfl)) pgs_nil)))
          (pss_one (ps_if (pt_cmpR op_ne (pv 3) pe_int (nomark _))
            (pss_cons (ps_setLc (i := 4) (te := tLst (StX.tStar K (tSl (rSlL K) (tVar 5) tNoPart (tPart (tVar 2))) (StX.tStar K (tSl (rSlL K) (tVar 5) (tPart (tOp (rI0 fun i j => .int (i + j)) (tVar 2) (tC (.int 1)))) tNoPart) tNil))) (own := [("row", 5)]) (g := gName 5) (tt := tYes) rfl scDet.nd rfl rfl (sw_true rfl rfl rfl (by decide +kernel))
                (pi_list (pe_slice sl_list (pv 0) (po_some pe_int) po_none)) (blkOk_by (N := ["rows", "found", "place", "lead", "rest", "row"]) (sc := defScope sDet) (by decide +kernel)) (fun _ _ _ _ _ => pg_name (i := 5) scDet.nd rfl (Or.inl rfl)) (fun _ _ _ _ _ => pts_nil)
                (fun _ _ _ _ _ => pe_lst (StX.pa_star (pe_slice sl_list (pv 5) po_none (po_some (pv 2))) (StX.pa_star (pe_slice sl_list (pv 5) (po_some (pe_op op_add (pv 2) pe_int)) po_none) pa_nil))))
              (pss_one (ps_set (i := 1) scDet.nd rfl (Or.inl rfl) (pe_op op_add (pv 1) (pe_op op_mul (pe_ifExp (pt_truth (pe_op op_mod (pv 2) pe_int) (by intro _; rfl)) (pe_un un_neg (pv 3)) (pv 3))
                (pe_call G hr (by rfl) hm F.kp bG .nil pass0 (pa_cons (pv 4) pa_nil)))))))
            pss_nil)))
        (pss_one (ps_ret (pv 1))))), ?_⟩
      -- rows == []
      refine ⟨_, rfl, Nat.zero_le _, fun l hl => ?_⟩
      have s1 : Same H (upd H l (.lst [])) := same_new hl
      have hp1 := paired_mono hp fun a row _ e => s1 _ _ e
      refine ⟨_, .list [], .lst (SqL.of (s1 _ _ hL)) (mat_dp hp1), .lst (SqL.of upd_same) .nil, mat_shp.shaped (by decide), (Shp.list (n := 0) (fun d hd => by cases hd)).shaped (by decide), _, rfl, ?_⟩
      cases m with
      | nil => simp at h1
      | cons r0 m =>
      cases ps with
      | nil => cases hp
      | cons a0 ps =>
      cases hp with
      | cons ha0 hpt =>
      refine ifN (by simp [PyData.eqv, PyData.eqvAll]) ?_
      obtain ⟨hr0, hx0⟩ := h2 r0 List.mem_cons_self
      -- the loop
      refine ⟨_, rfl, p, _, 0, .ref a0, rfl, rfl, SqL.of (s1 _ _ hL), atI_of (by decide) rfl, ?_⟩
      refine ⟨a0, _, rfl, SqL.of (s1 _ _ ha0), ?_⟩
      refine for_enumL (K := K) (a := a0) (xs := r0.map V.int) (fun i σ H' => Same H H' ∧ ∃ v2 v3 v4, σ = [some (.ref p), some (.int (detS (detF n) (r0 :: m) i)), v2, v3, v4, none]) ⟨s1, none, none, none, rfl⟩ (fun i σ H' _ pv => SqL.of (pv.1 _ _ ha0)) ?_ ?_
      · rintro i x T σ H1 hx ⟨s2, v2, v3, v4, rfl⟩ hT
        obtain ⟨lead, hlead, rfl⟩ : ∃ z, r0[i]? = some z ∧ V.int z = x := by
          rw [List.getElem?_map] at hx
          cases e : r0[i]? with
          | none => rw [e] at hx; cases hx
          | some z => rw [e] at hx; exact ⟨z, rfl, Option.some.inj hx⟩
        have hi : i < n + 1 := by
          have := (List.getElem?_eq_some_iff.mp hlead).1
          omega
        have hg : ((r0 :: m).headD []).getD i 0 = lead := by simp [List.getD, hlead]
        obtain ⟨b1, b2⟩ := hx0 lead (List.mem_of_getElem? hlead)
        have s3 : Same H (upd H1 T (.tup [.int (i : Nat), .int lead])) := s2.new hT
        refine ⟨T, _, rfl, SqT.of upd_same, rfl, _, _, rfl, _, _, rfl, rfl, ?_⟩
        refine ⟨_, rfl, rfl, _, rfl, ?_⟩
        by_cases h0 : lead = 0
        · refine ifN (by rw [h0]; rfl) ?_
          refine ⟨s3, some (.int (i : Nat)), some (.int lead), v4, ?_⟩
          have e : detS (detF n) (r0 :: m) (i + 1) = detS (detF n) (r0 :: m) i := by
            show (if ((r0 :: m).headD []).getD i 0 = 0 then _ else _) = _
            rw [hg, if_pos h0]
          rw [e]
          rfl
        · refine ifY (by rw [decide_eq_false (fun z => h0 (by simpa using z))]; rfl) ?_
          refine ⟨_, rfl, 1, rfl, p, _, rfl, SqL.of (s3 _ _ hL), fun p2 hp2 => ?_⟩
          have ecut : cutV ((a0 :: ps).map V.ref) (some 1) none = ps.map V.ref := cutV_from _ 1
          rw [ecut]
          refine ⟨p2, rfl, ⟨_, SqL.of upd_same⟩, fun D hD => ?_⟩
          have s4 : Same H (upd (upd H1 T (.tup [.int (i : Nat), .int lead])) p2 (.lst (ps.map V.ref))) := s3.new hp2
          have hlenm : ps.length = m.length := paired_len hpt
          refine lcM (walk_list (K := K) (a := p2) (xs := ps.map V.ref)) (fun x y H' => ∃ b : Addr, y = .ref b ∧ ∃ (a : Addr) (row : List Int), x = .ref a ∧ H a = some (.lst (row.map V.int)) ∧ H' b = some (.lst ((row.take i ++ row.drop (i + 1)).map V.int))) (by rintro x y H1 H2 ⟨b, e1, a, row, e2, e3, e4⟩ s; exact ⟨b, e1, a, row, e2, e3, s _ _ e4⟩) (fun H2 s5 => SqL.of (s5 _ _ upd_same)) hD ?_ (fun k x H2 Ny hx s5 hacc hy => ?_) (fun H2 acc s5 hacc pr => ?_)
          · rw [List.length_map]
            simp at h1
            omega
          · obtain ⟨a, ha, rfl⟩ : ∃ a, a ∈ ps ∧ V.ref a = x := List.mem_map.mp (List.mem_of_getElem? hx)
            obtain ⟨row, hrow, hra⟩ := paired_left hpt ha
            obtain ⟨hrl, _⟩ := h2 row (List.mem_cons_of_mem _ hrow)
            have hra2 := s5 _ _ (s4 _ _ hra)
            refine ⟨rfl, _, rfl, _, rfl, _, rfl, a, _, rfl, SqL.of hra2, fun q1 hq1 => ?_⟩
            rw [cutV_to]
            refine ⟨q1, _, rfl, .inr (SqL.of upd_same), ?_⟩
            refine ⟨_, rfl, _, rfl, _, _, rfl, rfl, _, rfl, a, _, rfl, SqL.of (same_new hq1 _ _ hra2), fun q2 hq2 => ?_⟩
            have e1 : cutV (row.map V.int) (some ((i : Int) + 1)) none = (row.map V.int).drop (i + 1) := cutV_from _ (i + 1)
            rw [e1]
            refine ⟨q2, _, rfl, .inr (SqL.of upd_same), ?_, fun b hb => ?_⟩
            · rw [List.append_nil, List.length_append, List.length_take, List.length_drop, List.length_map]
              exact le_line (by omega)
            · obtain ⟨acc0, hacc0⟩ := hacc
              have hb' := ne_of_none (same_new hq2 _ _ (same_new hq1 _ _ hacc0)) hb
              refine hy _ _ (((same_new hq1).new hq2).new hb) ⟨b, rfl, a, row, rfl, hra, ?_⟩
              rw [del_ne (Ne.symm hb'), upd_same, List.append_nil, List.map_append, List.map_take, List.map_drop]
          · have pk : Paired (fun (row : List Int) (y : V) => ∃ b, y = V.ref b ∧ H2 b = some (.lst (row.map V.int))) (minor i m) acc := by
              have pj := paired_join (paired_map_l pr) hpt
              refine paired_swap (paired_mapr (paired_mono pj fun y row _ ⟨a, _, ⟨b, e1, a', row', e2, e3, e4⟩, e5⟩ => ?_))
              cases e2
              rw [e3] at e5
              have e6 : row' = row := int_map_inj (show _ = _ by simpa using e5)
              subst e6
              exact ⟨b, e1, same_del _ _ e4⟩
            obtain ⟨bs, ebs, pbs⟩ := paired_refs pk
            subst ebs
            have hSm : SqM n (minor i m) := SqM.minor (m := r0 :: m) ⟨h1, h2⟩ hi
            have hstep : ∀ H', Same H H' → ∀ v2 v3 v4, (fun (i : Nat) (σ : St) (H' : Hp) => Same H H' ∧ ∃ v2 v3 v4, σ = [some (.ref p), some (.int (detS (detF n) (r0 :: m) i)), v2, v3, v4, none]) (i + 1) [some (.ref p), some (.int (detS (detF n) (r0 :: m) i + (if i % 2 = 1 then -lead else lead) * detF n (minor i m))), v2, v3, v4, none] H' := fun H' s v2 v3 v4 => by
              refine ⟨s, v2, v3, v4, ?_⟩
              have e : detS (detF n) (r0 :: m) (i + 1) = detS (detF n) (r0 :: m) i + (if i % 2 = 1 then -lead else lead) * detF n (minor i m) := by
                show (if ((r0 :: m).headD []).getD i 0 = 0 then _ else _) = _
                rw [hg, if_neg h0]
                rfl
              rw [e]
            refine ⟨_, rfl, _, rfl, _, _, rfl, rfl, (by show (0 : Int) < 2; decide), ((i : Int) % 2 != 0), rfl, ?_⟩
            by_cases hev : i % 2 = 1
            · have e2 : ((i : Int) % 2 != 0) = true := by simp; omega
              refine ifY e2 ?_
              refine ⟨_, rfl, _, rfl, _, rfl, D, minor i m, rfl, ⟨bs, hacc, pbs⟩, hSm, fun H3 s6 => ?_⟩
              refine ⟨_, _, rfl, rfl, .inl ⟨by omega, by omega⟩, _, _, rfl, rfl, ?_⟩
              have hh := hstep H3 ((s4.trans s5).trans s6)
              rw [if_pos hev] at hh
              exact hh _ _ _
            · have e2 : ((i : Int) % 2 != 0) = false := by simp; omega
              refine ifN e2 ?_
              refine ⟨_, rfl, _, rfl, D, minor i m, rfl, ⟨bs, hacc, pbs⟩, hSm, fun H3 s6 => ?_⟩
              refine ⟨_, _, rfl, rfl, .inl ⟨by omega, by omega⟩, _, _, rfl, rfl, ?_⟩
              have hh := hstep H3 ((s4.trans s5).trans s6)
              rw [if_neg hev] at hh
              exact hh _ _ _
      · rintro σ H1 ⟨s2, v2, v3, v4, rfl⟩
        have e : (r0.map V.int).length = n + 1 := by rw [List.length_map]; exact hr0
        rw [e]
        exact ⟨_, rfl, q _ s2⟩
/-- of any size up to five -/
def spDetA : Sp := fun vs H Q E => ∃ n, n ≤ 5 ∧ spDet n vs H Q E
theorem ok_det (F : L2.Fun K "determinant" "determinant" sDet f fd) (hm : mg "determinant" = some (.ref f)) (B : Bt mg) : C8.Cal P w K mg base 6 "determinant" spDetA [] := by
  refine ⟨f, fd, ["rows"], [], ⟨fun vs H Q E h => ?_, fun A outer s H args us vs Q E hr e0 hb r h => ?_⟩, hm, F.kp, F.binds (fun _ _ _ _ _ _ us hl => match us, hl with | [_], _ => rfl), .nil⟩
  · obtain ⟨n, _, p, m, rfl, _⟩ := h
    rfl
  · obtain ⟨n, hn, h⟩ := h
    exact (det_fn F hm B n hn).run A outer s H args us vs Q E (hr.mono (by omega)) e0 hb r h
end
end Ky
end

section
set_option Elab.async false
set_option linter.all false
set_option maxRecDepth 100000
set_option maxHeartbeats 2000000
namespace Ky
open PySem PySem.Spec PyProof.Rows L2
/-- every non-empty lot's determinant is above nought -/
def posAll (rows : List (List Int)) : Bool := (setsL rows.length).all fun ns => decide (ns = []) || decide (0 < detF ns.length (cutM rows ns))
theorem setsL_mem : ∀ {n : Nat} {ns : List Int}, ns ∈ setsL n → ∀ x ∈ ns, 0 ≤ x ∧ x < n
  | 0, ns, h, x, hx => by
    have e : ns = [] := List.mem_singleton.mp h
    subst e
    cases hx
  | n + 1, ns, h, x, hx => by
    rcases List.mem_append.mp h with h | h
    · have := setsL_mem h x hx
      omega
    · obtain ⟨ms, hms, rfl⟩ := List.mem_map.mp h
      rcases List.mem_append.mp hx with h2 | h2
      · have := setsL_mem hms x h2
        omega
      · have e : x = (n : Int) := List.mem_singleton.mp h2
        omega
theorem cutM_sq {n : Nat} {rows : List (List Int)} (h : SqM n rows) (ns : List Int) : SqM ns.length (cutM rows ns) := by
  refine ⟨by unfold cutM; rw [List.length_map], fun row hrow => ?_⟩
  obtain ⟨i, hi, rfl⟩ := List.mem_map.mp hrow
  refine ⟨by rw [List.length_map], fun x hx => ?_⟩
  obtain ⟨j, hj, rfl⟩ := List.mem_map.mp hx
  cases e : rows[i.toNat]? with
  | none => simp [List.getD, e]
  | some r =>
    cases e2 : r[j.toNat]? with
    | none => simp [List.getD, e, e2]
    | some y =>
      have := (h.2 r (List.mem_of_getElem? e)).2 y (List.mem_of_getElem? e2)
      simpa [List.getD, e, e2] using this
section
variable {P : Program} {w : World} {K : PySem.W.Frag} {mg : Str → Option Value} {base : Heap} {f CT : Addr} {fd : FuncData}
theorem scFirst : FnScope ["rows", "lot"] ["rows"] (defScope sFirst) := ⟨rfl, rfl, rfl, by decide +kernel, rfl, by decide +kernel, by decide +kernel⟩
/-- None where all is well; else a tuple of whole numbers -/
def BadRes (bad : Bool) (H : Hp) (Q : VK) : Prop := (bad = false → ∀ H', Same H H' → Q .non H') ∧ (bad = true → ∀ (H' : Hp) (t : Addr) (ns : List Int), Same H H' → H' t = some (.tup (ns.map V.int)) → Q (.ref t) H')
def spFirst : Sp := fun vs H Q _ => ∃ (r : Addr) (n : Nat) (rows : List (List Int)), vs = [.ref r] ∧ RowsAt H r rows ∧ SqM n rows ∧ n ≤ 5 ∧ BadRes (!posAll rows) H Q
theorem ok_first (F : L2.Fun K "first_bad" "first_bad" sFirst f fd) (hm : mg "first_bad" = some (.ref f)) (B : Bt mg) (CS : C8.Cal P w K mg base 1 "sets_of" spSets []) (CD : C8.Cal P w K mg base 6 "determinant" spDetA []) (CC : C8.Cal P w K mg base 1 "cut" spCut []) : C8.Cal P w K mg base 7 "first_bad" spFirst [] := by
  refine cal_mk F hm scFirst (fun _ _ _ _ _ _ us hl => match us, hl with | [_], _ => rfl) (fun vs H Q E h => ?_) (fun cdv A outer s H vs Q E hr h => ?_)
  · obtain ⟨r, n, rows, rfl, _⟩ := h
    rfl
  · obtain ⟨r, n, rows, rfl, hRA, hS, hn, q1, q2⟩ := h
    obtain ⟨rs, hR, hp⟩ := id hRA
    refine ⟨_, pss_cons (ps_for PassesOwn.never rfl (pi_list (pe_slice sl_list (C8.pe_c CS hr (by decide) (by rfl) (pa_cons (pe_callB call_len_seq (by rfl) B.len PySem.boot_len (pa_cons (pv 0) pa_nil)) pa_nil)) (po_some pe_int) po_none)) (pg_name (i := 1) scFirst.nd rfl (.inl rfl))
        (pss_one (ps_if (pt_cmpR op_le (C8.pe_c CD hr (by decide) (by rfl) (pa_cons (C8.pe_c CC hr (by decide) (by rfl) (pa_cons (pv 0) (pa_cons (pv 1) pa_nil))) pa_nil)) pe_int (nomark _)) (pss_one (ps_ret (pv 1))) pss_nil)))
      (pss_one (ps_ret pe_non)), ?_⟩
    have hrl : rs.length = n := by rw [paired_len hp]; exact hS.1
    refine ⟨_, rfl, r, _, rfl, .inr (SqT.of hR), n, (by rw [List.length_map, hrl]; rfl), hn, fun H1 l ts lots s1 hl hpt hperm hhead => ?_⟩
    refine ⟨1, rfl, l, _, rfl, SqL.of hl, fun l2 hl2 => ?_⟩
    have ecut : cutV (ts.map V.ref) (some 1) none = (ts.drop 1).map V.ref := by rw [show (1 : Int) = ((1 : Nat) : Int) from rfl, cutV_from, List.map_drop]
    rw [ecut]
    obtain ⟨t0, ts, rfl⟩ : ∃ t0 ts', ts = t0 :: ts' := by
      cases hpt with
      | nil => simp at hhead
      | cons a b => exact ⟨_, _, rfl⟩
    cases lots with
    | nil => simp at hhead
    | cons l0 lots =>
    have e0 : l0 = [] := by simpa using hhead
    subst e0
    cases hpt with
    | cons ht0 hpt =>
    have s2 : Same H (upd H1 l2 (.lst (((t0 :: ts).drop 1).map V.ref))) := s1.new hl2
    have hlen : ts.length = lots.length := paired_len hpt
    refine ⟨l2, rfl, ⟨_, SqL.of upd_same⟩, ?_⟩
    refine for_list (K := K) (a := l2) (xs := ts.map V.ref) (fun i σ H' => Same (upd H1 l2 (.lst (((t0 :: ts).drop 1).map V.ref))) H' ∧ ∃ v1, σ = [some (.ref r), v1] ∧ ∀ ns ∈ lots.take i, 0 < detF ns.length (cutM rows ns))
      ⟨Same.refl _, none, rfl, fun ns h => by simp at h⟩ (fun i σ H' _ pv => SqL.of (pv.1 _ _ upd_same)) ?_ ?_
    · rintro i x σ H2 hx ⟨s3, v1, rfl, hpos⟩
      obtain ⟨t, ht, rfl⟩ : ∃ t, ts[i]? = some t ∧ V.ref t = x := by
        rw [List.getElem?_map] at hx
        cases e : ts[i]? with
        | none => rw [e] at hx; cases hx
        | some z => rw [e] at hx; exact ⟨z, rfl, Option.some.inj hx⟩
      obtain ⟨ns, hns, hta⟩ := paired_get2 hpt ht
      have hta2 := s3 _ _ (same_new (o := .lst (((t0 :: ts).drop 1).map V.ref)) hl2 _ _ hta)
      have hmem : ns ∈ setsL n := (hperm.mem_iff).mp (List.mem_cons_of_mem _ (List.mem_of_getElem? hns))
      have hl5 := setsL_len1 n hn ns hmem
      have s4 : Same H H2 := s2.trans s3
      refine ⟨_, rfl, _, rfl, r, t, rows, ns, rfl, hRA.same s4, hta2, by omega, fun z hz => ?_, fun row hrow => ?_, fun H3 p s5 hM => ?_⟩
      · have := setsL_mem hmem z hz
        rw [hS.1]
        exact this
      · rw [hS.1]
        exact (hS.2 row hrow).1
      · refine ⟨ns.length, hl5, p, _, rfl, hM, cutM_sq hS ns, fun H4 s6 => ?_⟩
        refine ⟨_, _, rfl, rfl, _, rfl, ?_⟩
        by_cases hd : detF ns.length (cutM rows ns) ≤ 0
        · refine ifY (decide_eq_true hd) ?_
          refine ⟨_, rfl, q2 ?_ H4 t ns ((s4.trans s5).trans s6) (s6 _ _ (s5 _ _ hta2))⟩
          have hf : posAll rows = false := by
            unfold posAll
            rw [List.all_eq_false]
            refine ⟨ns, by rw [hS.1]; exact hmem, ?_⟩
            have hne : ns ≠ [] := fun e => by
              subst e
              simp [detF] at hd
            simp [hne]
            omega
          rw [hf]
          rfl
        · refine ifN (decide_eq_false hd) ?_
          refine ⟨(s3.trans s5).trans s6, _, rfl, fun ms hms => ?_⟩
          rw [take_snoc hns] at hms
          rcases List.mem_append.mp hms with h | h
          · exact hpos ms h
          · have e : ms = ns := List.mem_singleton.mp h
            rw [e]
            omega
    · rintro σ H2 ⟨s3, v1, rfl, hpos⟩
      refine q1 ?_ H2 (s2.trans s3)
      have hall : posAll rows = true := by
        unfold posAll
        rw [List.all_eq_true]
        intro ns hns
        rw [hS.1] at hns
        rcases List.mem_cons.mp ((hperm.mem_iff).mpr hns) with h | h
        · simp [h]
        · have := hpos ns (by rw [List.length_map, hlen, List.take_length]; exact h)
          simp [this]
      rw [hall]
      rfl
theorem scBadLot : FnScope ["table"] ["table"] (defScope sBadLot) := ⟨rfl, rfl, rfl, by decide +kernel, rfl, by decide +kernel, by decide +kernel⟩
def spBadLot (CT : Addr) : Sp := fun vs H Q _ => ∃ (t : Addr) (n : Nat) (rows : List (List Int)), vs = [.ref t] ∧ TabAt CT H t rows ∧ SqM n rows ∧ n ≤ 5 ∧ BadRes (!posAll rows) H Q
theorem ok_badLot (F : L2.Fun K "bad_lot" "bad_lot" sBadLot f fd) (hm : mg "bad_lot" = some (.ref f)) (T : TbT K mg CT) (C1 : C8.Cal P w K mg base 1 "check_table" (spCheckT CT) []) (C7 : C8.Cal P w K mg base 7 "first_bad" spFirst []) : C8.Cal P w K mg base 8 "bad_lot" (spBadLot CT) [] := by
  refine cal_mk F hm scBadLot (fun _ _ _ _ _ _ us hl => match us, hl with | [_], _ => rfl) (fun vs H Q E h => ?_) (fun cdv A outer s H vs Q E hr h => ?_)
  · obtain ⟨t, n, rows, rfl, _⟩ := h
    rfl
  · obtain ⟨t, n, rows, rfl, ⟨dx, r, ht, hRA⟩, hS, hn, q⟩ := h
    refine ⟨_, pss_cons (ps_expr (C8.pe_c C1 hr (by decide) (by rfl) (pa_cons (pv 0) pa_nil))) (pss_one (ps_ret (C8.pe_c C7 hr (by decide) (by rfl) (pa_cons (pe_fld (pv 0) rfl) pa_nil)))), ?_⟩
    refine ⟨_, rfl, t, dx, _, rfl, ht, ?_⟩
    exact ⟨_, rfl, t, CT, dx, _, _, rfl, ht, T.cl, T.nR, tf_rows r, r, n, rows, rfl, hRA, hS, hn, q⟩
theorem scSingle : FnScope ["table", "found"] ["table"] (defScope sSingle) := ⟨rfl, rfl, rfl, by decide +kernel, rfl, by decide +kernel, by decide +kernel⟩
/-- () where all is well; else a tuple of one tuple of whole numbers -/
def FaultRes (bad : Bool) (H : Hp) (Q : VK) : Prop := (bad = false → ∀ (H' : Hp) (p : Addr), Same H H' → H' p = some (.tup []) → Q (.ref p) H') ∧
  (bad = true → ∀ (H' : Hp) (p t : Addr) (ns : List Int), Same H H' → H' p = some (.tup [.ref t]) → H' t = some (.tup (ns.map V.int)) → Q (.ref p) H')
def spSingle (CT : Addr) : Sp := fun vs H Q _ => ∃ (t : Addr) (n : Nat) (rows : List (List Int)), vs = [.ref t] ∧ TabAt CT H t rows ∧ SqM n rows ∧ n ≤ 5 ∧ FaultRes (!posAll rows) H Q
theorem ok_single (F : L2.Fun K "single_fault" "single_fault" sSingle f fd) (hm : mg "single_fault" = some (.ref f)) (C8' : C8.Cal P w K mg base 8 "bad_lot" (spBadLot CT) []) : C8.Cal P w K mg base 9 "single_fault" (spSingle CT) [] := by
  refine cal_mk F hm scSingle (fun _ _ _ _ _ _ us hl => match us, hl with | [_], _ => rfl) (fun vs H Q E h => ?_) (fun cdv A outer s H vs Q E hr h => ?_)
  · obtain ⟨t, n, rows, rfl, _⟩ := h
    rfl
  · obtain ⟨t, n, rows, rfl, hT, hS, hn, q1, q2⟩ := h
    refine ⟨_, pss_cons (ps_set (i := 1) scSingle.nd rfl (Or.inl rfl) (C8.pe_c C8' hr (by decide) (by rfl) (pa_cons (pv 0) pa_nil)))
      (pss_one (ps_ret (pe_ifExp (pt_cmpR op_isN (pv 1) pe_non (nomark _)) (pe_tup pa_nil) (pe_tup (pa_cons (pv 1) pa_nil))))), ?_⟩
    refine ⟨_, rfl, t, n, rows, rfl, hT, hS, hn, fun hb H1 s1 => ?_, fun hb H1 u ns s1 hu => ?_⟩
    · refine ⟨_, rfl, rfl, _, rfl, ?_⟩
      refine ifY (decide_eq_true rfl) ?_
      exact ⟨Nat.zero_le _, fun p hp => q1 hb _ p (s1.new hp) upd_same⟩
    · refine ⟨_, rfl, rfl, _, rfl, ?_⟩
      refine ifN (decide_eq_false (by intro z; cases z)) ?_
      exact ⟨_, rfl, (by show 1 ≤ sizeLine; decide), fun p hp => q2 hb _ p u ns (s1.new hp) upd_same (same_new hp _ _ hu)⟩
end
end Ky
end

section
set_option Elab.async false
set_option linter.all false
set_option maxRecDepth 100000
set_option maxHeartbeats 2000000
namespace Ky
open PySem PySem.Spec PyProof.Rows L2
theorem strOk_of {z : Str} (h : ∀ c ∈ z.cps.toList, c < 0x110000) : PyData.strOk z = true := by
  unfold PyData.strOk
  rw [← Array.all_toList, List.all_eq_true]
  intro c hc
  exact decide_eq_true (h c hc)
theorem letters_small : ∀ c ∈ sLetters.cps.toList, c < 0x110000 := by decide +kernel
theorem NameOk.str {z : Str} (h : NameOk z) : PyData.strOk z = true := strOk_of fun c hc => letters_small c (h.2.2 c hc)
theorem Shp.str {n : Nat} {z : Str} (h : PyData.strOk z = true) : Shp n (.str z) := ⟨by simp [PyData.canLay0, h], by simp [PyData.depth]⟩
/-- the claim ('single', x) -/
def ClaimAt (H : Hp) (c : Addr) (x : Str) : Prop := H c = some (.tup [.str "single", .str x])
section
variable {P : Program} {w : World} {K : PySem.W.Frag} {mg : Str → Option Value} {base : Heap} {f CT CS : Addr} {fd : FuncData}
theorem scFaultOf : FnScope ["claim", "known"] ["claim", "known"] (defScope sFaultOf) := ⟨rfl, rfl, rfl, by decide +kernel, rfl, by decide +kernel, by decide +kernel⟩
def spFaultOf (CT : Addr) : Sp := fun vs H Q _ => ∃ (c d t : Addr) (x : Str) (kvs : List (Key × V)) (n : Nat) (rows : List (List Int)), vs = [.ref c, .ref d] ∧ ClaimAt H c x ∧ H d = some (.dK kvs) ∧ valV kvs (Sum.inr x) = some (.ref t) ∧ TabAt CT H t rows ∧ SqM n rows ∧ n ≤ 5 ∧ FaultRes (!posAll rows) H Q
theorem ok_faultOf (F : L2.Fun K "fault_of" "fault_of" sFaultOf f fd) (hm : mg "fault_of" = some (.ref f)) (C9 : C8.Cal P w K mg base 9 "single_fault" (spSingle CT) []) : C8.Cal P w K mg base 10 "fault_of" (spFaultOf CT) [] := by
  refine cal_mk F hm scFaultOf (fun _ _ _ _ _ _ us hl => match us, hl with | [_, _], _ => rfl) (fun vs H Q E h => ?_) (fun cdv A outer s H vs Q E hr h => ?_)
  · obtain ⟨c, d, t, x, kvs, n, rows, rfl, _⟩ := h
    rfl
  · obtain ⟨c, d, t, x, kvs, n, rows, rfl, hc, hd, hv, hT, hS, hn, q⟩ := h
    have hu := hu_of hr
    refine ⟨_, pss_cons (ps_if (pt_cmpR op_eq (pe_ix ix_tup (pv 0) pe_int (fun _ _ => rfl)) pe_str (nomark _)) (pss_one (ps_ret (C8.pe_c C9 hr (by decide) (by rfl) (pa_cons (pe_dget hu (pv 1) (pe_ix ix_tup (pv 0) pe_int (fun _ _ => rfl)) (fun _ _ => rfl)) pa_nil)))) pss_nil) pss_never, ?_⟩
    refine ⟨_, rfl, c, _, 0, _, rfl, rfl, SqT.of hc, atI_of (by decide) rfl, rfl, _, rfl, ?_⟩
    refine ifY (decide_eq_true rfl) ?_
    have g := DGet.k (k := Sum.inr x) hd
    rw [hv] at g
    exact ⟨_, rfl, _, rfl, c, _, 1, _, rfl, rfl, SqT.of hc, atI_of (by decide) rfl, d, _, rfl, g, t, n, rows, rfl, hT, hS, hn, q⟩
theorem scNamesIn : FnScope ["claim"] ["claim"] (defScope sNamesIn) := ⟨rfl, rfl, rfl, by decide +kernel, rfl, by decide +kernel, by decide +kernel⟩
def spNamesIn : Sp := fun vs H Q _ => ∃ (c : Addr) (x : Str), vs = [.ref c] ∧ ClaimAt H c x ∧ ∀ (H' : Hp) (p : Addr), Same H H' → H' p = some (.tup [.str x]) → Q (.ref p) H'
theorem ok_namesIn {aN : Addr} (F : L2.Fun K "names_in" "names_in" sNamesIn f fd) (hm : mg "names_in" = some (.ref f)) (hN : mg "NAMED" = some (.ref aN)) (kd : KDct K w aN "single" (.int 1)) : C8.Cal P w K mg base 1 "names_in" spNamesIn [] := by
  refine cal_mk F hm scNamesIn (fun _ _ _ _ _ _ us hl => match us, hl with | [_], _ => rfl) (fun vs H Q E h => ?_) (fun cdv A outer s H vs Q E hr h => ?_)
  · obtain ⟨c, x, rfl, _⟩ := h
    rfl
  · obtain ⟨c, x, rfl, hc, q⟩ := h
    refine ⟨_, pss_one (ps_ret (pe_slice sl_tupA (pv 0) (po_some pe_int) (po_some (pe_op op_add pe_int (pe_ix ix_kdict (pe_glob (v := .ref aN) (by rfl) hN rfl) (pe_ix ix_tup (pv 0) pe_int (fun _ _ => rfl)) (fun _ _ => rfl)))))), ?_⟩
    refine ⟨_, rfl, 1, rfl, _, rfl, c, _, 0, _, rfl, rfl, SqT.of hc, atI_of (by decide) rfl, aN, _, _, rfl, rfl, kd, _, _, rfl, rfl, 2, rfl, c, _, rfl, SqT.of hc, fun z => ?_, fun _ p hp => ?_⟩
    · have z1 := z.1
      simp [HT.sIx] at z1
    · exact q _ p (same_new hp) (by rw [upd_same]; rfl)
theorem scIsClaim : FnScope ["value"] ["value"] (defScope sIsClaim) := ⟨rfl, rfl, rfl, by decide +kernel, rfl, by decide +kernel, by decide +kernel⟩
def spIsClaim : Sp := fun vs H Q _ => ∃ (c : Addr) (x : Str), vs = [.ref c] ∧ ClaimAt H c x ∧ PyData.strOk x = true ∧ ∀ H', Same H H' → Q (.bl true) H'
theorem ok_isClaim {aS : Addr} {es : Array DictEntry} {n : Nat} (F : L2.Fun K "is_claim" "is_claim" sIsClaim f fd) (hm : mg "is_claim" = some (.ref f)) (B : Bt mg) (hS : mg "SIZES" = some (.ref aS)) (kd : KDict K w aS es n) (kv : ∃ t, PySem.W.nsIn K aS "single" = some (some (.int 2 t))) : C8.Cal P w K mg base 1 "is_claim" spIsClaim [] := by
  refine cal_mk F hm scIsClaim (fun _ _ _ _ _ _ us hl => match us, hl with | [_], _ => rfl) (fun vs H Q E h => ?_) (fun cdv A outer s H vs Q E hr h => ?_)
  · obtain ⟨c, x, rfl, _⟩ := h
    rfl
  · obtain ⟨c, x, rfl, hc, hx, q⟩ := h
    obtain ⟨tk, kv⟩ := kv
    refine ⟨_, pss_cons (ps_if (PW.pt (pw_or (pt_not (pt_val (pe_callB call_isi (by rfl) B.isi (by decide +kernel) (pa_cons (pv 0) (pa_cons (pe_bltn (v := .ty "tuple") (by rfl) B.tuple (by decide +kernel) rfl) pa_nil)))))
        (pw_or (pt_cmpR (op_eqD hr.units) (pv 0) (pe_tup pa_nil) (nomark _)) (pw_or1 (pt_not (pt_val (pe_callB call_isi (by rfl) B.isi (by decide +kernel) (pa_cons (pe_ix ix_tup (pv 0) pe_int (fun _ _ => rfl)) (pa_cons (pe_bltn (v := .ty "str") (by rfl) B.str (by decide +kernel) rfl) pa_nil))))))))) (pss_one (ps_ret pe_bl)) pss_nil)
      (pss_cons (ps_if (pt_cmpR op_ne (pe_kget2 (pe_glob (v := .ref aS) (by rfl) hS rfl) (pe_ix ix_tup (pv 0) pe_int (fun _ _ => rfl)) pe_int ⟨rfl, rfl, rfl, rfl⟩) (pe_callB call_len_seq (by rfl) B.len PySem.boot_len (pa_cons (pv 0) pa_nil)) (nomark _)) (pss_one (ps_ret pe_bl)) pss_nil)
      (pss_cons (ps_if (pt_cmpR op_ne (pe_ix ix_tup (pv 0) pe_int (fun _ _ => rfl)) pe_str (nomark _)) (pss_one (ps_ret pe_bl)) pss_nil) pss_never)), ?_⟩
    refine ⟨_, rfl, _, _, _, _, true, rfl, .ty "tuple", .base (.tup hc), kit_ty (by decide +kernel), true, rfl, iteF ?_⟩
    refine ⟨_, rfl, Nat.zero_le _, fun p hp => ?_⟩
    have hc1 := (same_new (o := .tup []) hp) _ _ hc
    have sh : SeqAt.shaped (.tuple [.str "single", .str x]) = true := (Shp.tuple (n := 0) (fun d hd => by
      rcases List.mem_cons.mp hd with e | hd
      · rw [e]
        exact Shp.str (by decide +kernel)
      · have e := List.mem_singleton.mp hd
        rw [e]
        exact Shp.str hx)).shaped (by decide)
    refine ⟨_, .tuple [], .tup (SqT.of hc1) (.cons (.str _) (.cons (.str _) .nil)), .tup (SqT.of upd_same) .nil, sh, (Shp.tuple (n := 0) (fun d hd => by cases hd)).shaped (by decide), _, rfl, ?_⟩
    refine ifN (by simp [PyData.eqv, PyData.eqvAll]) ?_
    refine ⟨_, rfl, c, _, 0, _, rfl, rfl, SqT.of hc1, atI_of (by decide) rfl, _, _, _, _, true, rfl, .ty "str", .base (.str _), kit_ty (by decide +kernel), true, rfl, iteF ?_⟩
    refine ⟨aS, es, n, rfl, kd, _, rfl, c, _, 0, _, rfl, rfl, SqT.of hc1, atI_of (by decide) rfl, "single", _, rfl, kv, fun u e => ?_, fun e => nomatch e⟩
    cases e
    refine ⟨.int 2, ⟨tk, rfl⟩, _, rfl, c, _, rfl, .inr (SqT.of hc1), rfl, _, rfl, ?_⟩
    refine ifN (by rfl) ?_
    refine ⟨_, rfl, c, _, 0, _, rfl, rfl, SqT.of hc1, atI_of (by decide) rfl, rfl, _, rfl, ?_⟩
    refine ifY (by decide) ?_
    exact q _ (same_new hp)
/-! Shelf -/
def sf (p g b d : V) : List (Str × V) := putF "depth" d (putF "before" b (putF "pledges" g (putF "pairs" p [])))
theorem sf_depth (p g b d : V) : (sf p g b d).lookup ("depth" : Str) = some d := by
  unfold sf
  rw [lookup_putF, if_pos rfl]
theorem sf_before (p g b d : V) : (sf p g b d).lookup ("before" : Str) = some b := by
  unfold sf
  rw [lookup_putF, if_neg (by decide +kernel), lookup_putF, if_pos rfl]
theorem sf_pledges (p g b d : V) : (sf p g b d).lookup ("pledges" : Str) = some g := by
  unfold sf
  rw [lookup_putF, if_neg (by decide +kernel), lookup_putF, if_neg (by decide +kernel), lookup_putF, if_pos rfl]
theorem sf_pairs (p g b d : V) : (sf p g b d).lookup ("pairs" : Str) = some p := by
  unfold sf
  rw [lookup_putF, if_neg (by decide +kernel), lookup_putF, if_neg (by decide +kernel), lookup_putF, if_neg (by decide +kernel), lookup_putF, if_pos rfl]
theorem putF_len (f : Str) (v : V) : ∀ fs : List (Str × V), (putF f v fs).length ≤ fs.length + 1
  | [] => Nat.le_refl _
  | (g, x) :: r => by
    show (if g = f then (g, v) :: r else (g, x) :: putF f v r).length ≤ _
    split
    · simp
    · have := putF_len f v r
      simp
      exact this
structure ShT (K : PySem.W.Frag) (mg : Str → Option Value) (CS : Addr) : Prop where
  cl : Cls K CS
  nP : NoAttr K CS "pairs"
  nG : NoAttr K CS "pledges"
  nB : NoAttr K CS "before"
  nD : NoAttr K CS "depth"
  mgS : mg "Shelf" = some (.ref CS)
theorem scShInit : FnScope ["self", "pairs", "pledges", "before"] ["self", "pairs", "pledges", "before"] (defScope sShInit) := ⟨rfl, rfl, rfl, by decide +kernel, rfl, by decide +kernel, by decide +kernel⟩
/-- the depth that a shelf over b has -/
def DepthOf (CS : Addr) (H : Hp) (b : V) (d : Nat) : Prop := (b = .non ∧ d = 0) ∨ ∃ (b' dx : Addr) (p g b2 : V) (n : Nat), b = .ref b' ∧ H b' = some (.ins CS dx (sf p g b2 (.int n))) ∧ d = n + 1
def spShInit (CS : Addr) : Sp := fun vs H Q _ => ∃ (s dx : Addr) (p g b : V) (d : Nat), vs = [.ref s, p, g, b] ∧ H s = some (.ins CS dx []) ∧ (∀ b', b = .ref b' → b' ≠ s) ∧ DepthOf CS H b d ∧
  ∀ H', (∀ b o, b ≠ s → H b = some o → H' b = some o) → H' s = some (.ins CS dx (sf p g b (.int d))) → Q .non H'
theorem ok_shInit (F : L2.Fun K "__init__" "Shelf.__init__" sShInit f fd) (T : ShT K mg CS) : FnOk P w K mg base L2.CX0 1 f fd ["self", "pairs", "pledges", "before"] (spShInit CS) := by
  refine F.ok scShInit (fun vs H Q E h => ?_) (fun cdv A outer s H vs Q E hr h => ?_)
  · obtain ⟨s, dx, p, g, b, d, rfl, _⟩ := h
    rfl
  · obtain ⟨s, dx, p, g, b, d, rfl, hs, hne, hd, q⟩ := h
    refine ⟨_, pss_cons (ps_fld (pv 0) (pv 1) rfl) (pss_cons (ps_fld (pv 0) (pv 2) rfl) (pss_cons (ps_fld (pv 0) (pv 3) rfl)
      (pss_one (ps_fld (pv 0) (pe_ifExp (pt_cmpR op_isN (pv 3) pe_non (nomark _)) pe_int (pe_op op_add (pe_fld (pv 3) rfl) pe_int)) rfl)))), ?_⟩
    have l1 : (putF "pairs" p []).length ≤ 1 := putF_len _ _ _
    have l2 : (putF "pledges" g (putF "pairs" p [])).length ≤ 2 := Nat.le_trans (putF_len _ _ _) (by omega)
    have l3 : (putF "before" b (putF "pledges" g (putF "pairs" p []))).length ≤ 3 := Nat.le_trans (putF_len _ _ _) (by omega)
    refine ⟨_, rfl, _, rfl, s, CS, dx, _, rfl, hs, T.cl, T.nP, (by show 0 < 1000; decide), ?_⟩
    refine ⟨_, rfl, _, rfl, s, CS, dx, _, rfl, upd_same, T.cl, T.nG, (by omega), ?_⟩
    refine ⟨_, rfl, _, rfl, s, CS, dx, _, rfl, upd_same, T.cl, T.nB, (by omega), ?_⟩
    rcases hd with ⟨rfl, rfl⟩ | ⟨b', dx', p', g', b2, n, rfl, hb, rfl⟩
    · refine ⟨_, rfl, rfl, ?_⟩
      refine ⟨_, rfl, ?_⟩
      refine ifY (decide_eq_true rfl) ?_
      refine ⟨_, rfl, s, CS, dx, _, rfl, upd_same, T.cl, T.nD, (by omega), ?_⟩
      refine q _ (fun b o hb e => ?_) upd_same
      rw [upd_ne hb, upd_ne hb, upd_ne hb, upd_ne hb]
      exact e
    · have nb := hne b' rfl
      refine ⟨_, rfl, rfl, ?_⟩
      refine ⟨_, rfl, ?_⟩
      refine ifN (decide_eq_false (by intro z; cases z)) ?_
      refine ⟨_, rfl, b', CS, dx', _, _, rfl, by rw [upd_ne nb, upd_ne nb, upd_ne nb]; exact hb, T.cl, T.nD, sf_depth _ _ _ _, _, _, rfl, rfl, ?_⟩
      refine ⟨_, rfl, s, CS, dx, _, rfl, upd_same, T.cl, T.nD, (by omega), ?_⟩
      refine q _ (fun b o hb e => ?_) upd_same
      rw [upd_ne hb, upd_ne hb, upd_ne hb, upd_ne hb]
      exact e
end
end Ky
end

section
set_option Elab.async false
set_option linter.all false
set_option maxRecDepth 100000
set_option maxHeartbeats 2000000
namespace Ky
open PySem PySem.Spec PyProof.Rows L2
/-! the eight sheets -/
def sheets : List (Str × List (List Int)) := [("1", [[1]]), ("7", [[7]]), ("0", [[0]]), ("2 -1 / -1 2", [[2, -1], [-1, 2]]), ("1 5 / -1 1", [[1, 5], [-1, 1]]), ("0 1 / 1 0", [[0, 1], [1, 0]]),
  ("3 0 0 / 9 3 0 / -4 5 3", [[3, 0, 0], [9, 3, 0], [-4, 5, 3]]), ("0 0 0 / 0 1 0 / 0 0 1", [[0, 0, 0], [0, 1, 0], [0, 0, 1]])]
def shT (i : Nat) : Str := (sheets.getD i ("1", [[1]])).1
def shR (i : Nat) : List (List Int) := (sheets.getD i ("1", [[1]])).2
def wiB (z : Str) (i : Int) : Bool := (List.range 10).any fun d => (decide (z = dg d) && decide (i = d)) || (decide (1 ≤ d) && decide (z = ng d) && decide (i = -d))
theorem wiB_ok {z : Str} {i : Int} (h : wiB z i = true) : WordInt z i := by
  unfold wiB at h
  obtain ⟨d, hd, h⟩ := List.any_eq_true.mp h
  have hd' : d < 10 := List.mem_range.mp hd
  rcases Bool.or_eq_true_iff.mp h with h | h
  · obtain ⟨h1, h2⟩ := Bool.and_eq_true_iff.mp h
    exact ⟨d, hd', .inl ⟨of_decide_eq_true h1, of_decide_eq_true h2⟩⟩
  · obtain ⟨h0, h2⟩ := Bool.and_eq_true_iff.mp h
    obtain ⟨h3, h4⟩ := Bool.and_eq_true_iff.mp h0
    exact ⟨d, hd', .inr ⟨of_decide_eq_true h3, of_decide_eq_true h4, of_decide_eq_true h2⟩⟩
def all2B {α β : Type} (f : α → β → Bool) : List α → List β → Bool
  | [], [] => true
  | a :: l, b :: m => f a b && all2B f l m
  | _, _ => false
theorem all2B_ok {α β : Type} {f : α → β → Bool} {F : α → β → Prop} (h : ∀ a b, f a b = true → F a b) : ∀ {l : List α} {m : List β}, all2B f l m = true → Paired F l m
  | [], [], _ => .nil
  | [], _ :: _, e => by cases e
  | _ :: _, [], e => by cases e
  | a :: l, b :: m, e => by
    obtain ⟨h1, h2⟩ := Bool.and_eq_true_iff.mp e
    exact .cons (h a b h1) (all2B_ok h h2)
def sqB (m : Int) (rows : List (List Int)) : Bool := decide (1 ≤ rows.length) && decide (rows.length ≤ 5) && rows.all fun row => decide (row.length = rows.length) && row.all fun x => decide (-m ≤ x) && decide (x ≤ m)
theorem sqB_ok {m : Int} {rows : List (List Int)} (h : sqB m rows = true) : Sq m rows := by
  unfold sqB at h
  simp only [Bool.and_eq_true, decide_eq_true_eq, List.all_eq_true] at h
  obtain ⟨⟨h1, h2⟩, h3⟩ := h
  exact ⟨h1, h2, fun row hr => ⟨(h3 row hr).1, fun x hx => (h3 row hr).2 x hx⟩⟩
theorem sq_m {rows : List (List Int)} (h : Sq 1000 rows) : SqM rows.length rows := ⟨rfl, fun row hr => ⟨(h.2.2 row hr).1, fun x hx => (h.2.2 row hr).2 x hx⟩⟩
def shB (z : Str) (rows : List (List Int)) : Bool :=
  decide (z.length ≤ 1000) && decide ((Txt.split z sParted).length ≤ 1000) && all2B (fun l row => decide (l.length ≤ 1000) && decide ((Txt.split l " ").length ≤ 1000) && all2B wiB (Txt.split l " ") row) (Txt.split z sParted) rows && sqB (10 ^ 20) rows && sqB 1000 rows &&
    decide (Txt.join sParted (rows.map fun row => Txt.join " " (row.map fun i => (toString i : Str))) = z) && rows.all fun row => row.all fun i => decide (-9 ≤ i) && decide (i ≤ 9)
theorem shB_ok {z : Str} {rows : List (List Int)} (h : shB z rows = true) : ShOk z rows ∧ SqM rows.length rows ∧ rows.length ≤ 5 := by
  unfold shB at h
  simp only [Bool.and_eq_true, decide_eq_true_eq] at h
  obtain ⟨⟨⟨⟨⟨⟨h1, h2⟩, h3⟩, h4⟩, h5⟩, h6⟩, h7⟩ := h
  have s4 := sqB_ok h4
  refine ⟨⟨h1, ⟨_, rfl, h2, all2B_ok (fun l row e => ?_) h3⟩, s4, h6, fun row hr i hi => ?_⟩, sq_m (sqB_ok h5), s4.2.1⟩
  · simp only [Bool.and_eq_true, decide_eq_true_eq] at e
    exact ⟨e.1.1, _, rfl, e.1.2, all2B_ok (fun _ _ => wiB_ok) e.2⟩
  · have := List.all_eq_true.mp (List.all_eq_true.mp h7 row hr) i hi
    simpa using this
def txB (rows : List (List Int)) : Bool := decide (rows.length ≤ 100) && rows.all (fun row => decide (row.length ≤ 100) && decide (((row.map fun i => (toString i : Str)).map (·.length)).sum + (row.map fun i => (toString i : Str)).length * 1 ≤ 16777216) && row.all fun i => decide (i.natAbs.log2 < 1920)) &&
  decide (((rows.map fun row => Txt.join " " (row.map fun i => (toString i : Str))).map (·.length)).sum + (rows.map fun row => Txt.join " " (row.map fun i => (toString i : Str))).length * 3 ≤ 16777216)
theorem txB_ok {rows : List (List Int)} (h : txB rows = true) : TxOk rows := by
  unfold txB at h
  simp only [Bool.and_eq_true, decide_eq_true_eq, List.all_eq_true] at h
  obtain ⟨⟨h1, h2⟩, h3⟩ := h
  exact ⟨h1, fun r hr => (h2 r hr).1.1, fun r hr => (h2 r hr).1.2, h3, fun r hr i hi => (h2 r hr).2 i hi⟩
theorem sheets_ok : (List.range 8).all (fun i => shB (shT i) (shR i) && txB (shR i)) = true := by decide +kernel
theorem sh_at {i : Nat} (hi : i < 8) : ShOk (shT i) (shR i) ∧ SqM (shR i).length (shR i) ∧ (shR i).length ≤ 5 ∧ TxOk (shR i) := by
  have h := List.all_eq_true.mp sheets_ok i (List.mem_range.mpr hi)
  obtain ⟨h1, h2⟩ := Bool.and_eq_true_iff.mp h
  obtain ⟨a, b, c⟩ := shB_ok h1
  exact ⟨a, b, c, txB_ok h2⟩
/-- a sheet's first sign tells -/
theorem sheets_bad : (List.range 8).all (fun i => decide ((shT i).cps.toList.head? = some 48) == !posAll (shR i)) = true := by decide +kernel
theorem sh_bad {i : Nat} (hi : i < 8) : decide ((shT i).cps.toList.head? = some 48) = !posAll (shR i) := by
  have h := List.all_eq_true.mp sheets_bad i (List.mem_range.mpr hi)
  simpa using h
theorem sheets_txt : (List.range 8).all (fun i => decide (txtOf (shR i) = shT i)) = true := by decide +kernel
theorem sh_txt {i : Nat} (hi : i < 8) : txtOf (shR i) = shT i := of_decide_eq_true (List.all_eq_true.mp sheets_txt i (List.mem_range.mpr hi))
theorem sheets_str : (List.range 8).all (fun i => PyData.strOk (shT i)) = true := by decide +kernel
theorem sh_str {i : Nat} (hi : i < 8) : PyData.strOk (shT i) = true := List.all_eq_true.mp sheets_str i (List.mem_range.mpr hi)
end Ky
end

section
set_option Elab.async false
set_option linter.all false
set_option maxRecDepth 100000
set_option maxHeartbeats 2000000
namespace Ky
open PySem PySem.Spec PyProof.Rows L2
open PySem.Ky2 (BmOk)
/-! the exceptions' __init__s -/
/-- what is asked of an own exception class with its own __init__ -/
structure ExI (K : PySem.W.Frag) (mg : Str → Option Value) (x : Str) (C fI : Addr) (bmB : List Value) (newId : String) : Prop where
  ob : OexB K C bmB newId
  iC : PySem.W.findIn K (.ref C) "__init__" = some (some (.ref fI))
  tI : PySem.W.typeIn K (.ref fI) = some (.type "function")
  mg : mg x = some (.ref C)
section
variable {P : Program} {w : World} {K : PySem.W.Frag} {mg : Str → Option Value} {base : Heap} {f C CT : Addr} {fd : FuncData}
theorem scBkInit : FnScope ["self", "index", "shown"] ["self", "index", "shown"] (defScope sBkInit) := ⟨rfl, rfl, rfl, by decide +kernel, rfl, by decide +kernel, by decide +kernel⟩
theorem scUnInit : FnScope ["self", "given"] ["self", "given"] (defScope sUnInit) := ⟨rfl, rfl, rfl, by decide +kernel, rfl, by decide +kernel, by decide +kernel⟩
theorem scIuInit : FnScope ["self", "index"] ["self", "index"] (defScope sIuInit) := ⟨rfl, rfl, rfl, by decide +kernel, rfl, by decide +kernel, by decide +kernel⟩
def spBk (C : Addr) : Sp := fun vs H Q _ => ∃ (a : Addr) (i s : V), vs = [.ref a, i, s] ∧ H a = some (exo a C none) ∧
  ∀ dx, H dx = none → dx ≠ a → Q .non (upd (upd (upd H dx (exd dx [(("index" : Str), i)])) a (exo a C (some dx))) dx (exd dx [(("shown" : Str), s), (("index" : Str), i)]))
def sp1 (C : Addr) (g : Str) : Sp := fun vs H Q _ => ∃ (a : Addr) (v : V), vs = [.ref a, v] ∧ H a = some (exo a C none) ∧ ∀ dx, H dx = none → dx ≠ a → Q .non (upd (upd H dx (exd dx [(g, v)])) a (exo a C (some dx)))
theorem ok_bkInit (F : L2.Fun K "__init__" "Broken.__init__" sBkInit f fd) (T : OexB K C bmAE nAE) (n1 : PySem.W.findIn K (.ref C) "index" = some none) (n2 : PySem.W.findIn K (.ref C) "shown" = some none) : FnOk P w K mg base L2.CX0 1 f fd ["self", "index", "shown"] (spBk C) := by
  refine F.ok scBkInit (fun vs H Q E h => ?_) (fun cdv A outer s H vs Q E hr h => ?_)
  · obtain ⟨a, i, s, rfl, _⟩ := h
    rfl
  · obtain ⟨a, i, z, rfl, ha, q⟩ := h
    refine ⟨_, pss_cons (ps_ostB (bmB := bmAE) (newId := nAE) bmOk_AE (pv 0) (pv 1)) (pss_one (ps_ostB (bmB := bmAE) (newId := nAE) bmOk_AE (pv 0) (pv 2))), ?_⟩
    refine ⟨_, rfl, _, rfl, a, C, rfl, T, n1, .inl ⟨ha, fun dx hdx hne => ?_⟩⟩
    refine ⟨_, rfl, _, rfl, a, C, rfl, T, n2, .inr ⟨dx, _, upd_same, by rw [upd_ne hne]; exact upd_same, (by show 1 ≤ 900; decide), ?_⟩⟩
    exact q dx hdx hne
theorem ok_unInit (F : L2.Fun K "__init__" "UnknownName.__init__" sUnInit f fd) (T : OexB K C bmLE nLE) (n1 : PySem.W.findIn K (.ref C) "given" = some none) : FnOk P w K mg base L2.CX0 1 f fd ["self", "given"] (sp1 C "given") := by
  refine F.ok scUnInit (fun vs H Q E h => ?_) (fun cdv A outer s H vs Q E hr h => ?_)
  · obtain ⟨a, i, rfl, _⟩ := h
    rfl
  · obtain ⟨a, i, rfl, ha, q⟩ := h
    refine ⟨_, pss_one (ps_ostB (bmB := bmLE) (newId := nLE) bmOk_LE (pv 0) (pv 1)), ?_⟩
    exact ⟨_, rfl, _, rfl, a, C, rfl, T, n1, .inl ⟨ha, fun dx hdx hne => q dx hdx hne⟩⟩
theorem ok_iuInit (F : L2.Fun K "__init__" "InUse.__init__" sIuInit f fd) (T : OexB K C bmLE nLE) (n1 : PySem.W.findIn K (.ref C) "index" = some none) : FnOk P w K mg base L2.CX0 1 f fd ["self", "index"] (sp1 C "index") := by
  refine F.ok scIuInit (fun vs H Q E h => ?_) (fun cdv A outer s H vs Q E hr h => ?_)
  · obtain ⟨a, i, rfl, _⟩ := h
    rfl
  · obtain ⟨a, i, rfl, ha, q⟩ := h
    refine ⟨_, pss_one (ps_ostB (bmB := bmLE) (newId := nLE) bmOk_LE (pv 0) (pv 1)), ?_⟩
    exact ⟨_, rfl, _, rfl, a, C, rfl, T, n1, .inl ⟨ha, fun dx hdx hne => q dx hdx hne⟩⟩
end
/-- what such a raise leaves: the error's own dict d, new; all else as it was -/
theorem raised_same {H : Hp} {a C dx : Addr} {fs gs : List (Str × V)} (ha : H a = none) (hd : upd H a (exo a C none) dx = none) (hne : dx ≠ a) :
    Same H (upd (L2.del (upd (upd (upd H a (exo a C none)) dx (exd dx gs)) a (exo a C (some dx))) a) dx (.xd fs)) := fun b o e => by
  have n1 : b ≠ a := ne_of_none e ha
  have hd0 : H dx = none := by rw [upd_ne hne] at hd; exact hd
  have n2 : b ≠ dx := ne_of_none e hd0
  rw [upd_ne n2, del_ne n1, upd_ne n1, upd_ne n2, upd_ne n1]
  exact e
/-! check_claims -/
def PairAtD (CT : Addr) (H : Hp) (q : Addr) (ni : Str × Nat) : Prop := ∃ t : Addr, H q = some (.tup [.str ni.1, .ref t]) ∧ TabAt CT H t (shR ni.2)
/-- the pairs (name, table) in a tuple that is told as its very object -/
def PairsF (CT : Addr) (H : Hp) (p : Addr) (ps : List (Str × Nat)) : Prop := ∃ (o : Obj) (qs : List Addr), H p = some (.frz o (.tup (qs.map V.ref))) ∧ o.dict = none ∧ Paired (PairAtD CT H) qs ps
def ClaimsAt (H : Hp) (g : Addr) (cs : List Str) : Prop := ∃ as : List Addr, H g = some (.tup (as.map V.ref)) ∧ Paired (ClaimAt H) as cs
theorem PairAtD.same {CT : Addr} {H H' : Hp} {q : Addr} {ni : Str × Nat} (h : PairAtD CT H q ni) (s : Same H H') : PairAtD CT H' q ni := by
  obtain ⟨t, h1, h2⟩ := h
  exact ⟨t, s _ _ h1, h2.same s⟩
theorem PairsF.same {CT : Addr} {H H' : Hp} {p : Addr} {ps : List (Str × Nat)} (h : PairsF CT H p ps) (s : Same H H') : PairsF CT H' p ps := by
  obtain ⟨o, qs, h1, h2, h3⟩ := h
  exact ⟨o, qs, s _ _ h1, h2, paired_mono h3 fun _ _ _ e => e.same s⟩
theorem ClaimsAt.same {H H' : Hp} {g : Addr} {cs : List Str} (h : ClaimsAt H g cs) (s : Same H H') : ClaimsAt H' g cs := by
  obtain ⟨as, h1, h2⟩ := h
  exact ⟨as, s _ _ h1, paired_mono h2 fun _ _ _ e => s _ _ e⟩
/-- the claim on c holds -/
def gd (ps : List (Str × Nat)) (c : Str) : Bool := ps.all fun ni => decide (ni.1 ≠ c) || posAll (shR ni.2)
theorem gd_at {ps : List (Str × Nat)} {c : Str} {i : Nat} (hn : (ps.map (·.1)).Nodup) (h : (c, i) ∈ ps) : gd ps c = posAll (shR i) := by
  unfold gd
  cases e : posAll (shR i) with
  | false =>
    rw [List.all_eq_false]
    exact ⟨(c, i), h, by simp [e]⟩
  | true =>
    rw [List.all_eq_true]
    intro ni hni
    by_cases hc : ni.1 = c
    · have e2 : ni = (c, i) := by
        have : ∀ {l : List (Str × Nat)}, (l.map (·.1)).Nodup → ∀ {a b : Str × Nat}, a ∈ l → b ∈ l → a.1 = b.1 → a = b := by
          intro l
          induction l with
          | nil => intro _ a b ha; cases ha
          | cons x l ih =>
            intro hd a b ha hb hab
            rw [List.map_cons, List.nodup_cons] at hd
            rcases List.mem_cons.mp ha with ha | ha <;> rcases List.mem_cons.mp hb with hb | hb
            · rw [ha, hb]
            · exact absurd (List.mem_map.mpr ⟨b, hb, by rw [← hab, ha]⟩) hd.1
            · exact absurd (List.mem_map.mpr ⟨a, ha, by rw [hab, hb]⟩) hd.1
            · exact ih hd.2 ha hb hab
        exact this hn hni h hc
      rw [e2]
      simp [e]
    · simp [hc]
/-- the entries that dict(pairs) makes -/
theorem kvs_of {CT : Addr} {K : PySem.W.Frag} {H : Hp} : ∀ {qs : List Addr} {ps : List (Str × Nat)}, Paired (PairAtD CT H) qs ps →
    ∃ kvs : List (Key × V), Paired (fun p kv => SqT K H p [kV kv.1, kv.2]) qs kvs ∧ Paired (fun (kv : Key × V) (ni : Str × Nat) => kv.1 = Sum.inr ni.1 ∧ ∃ t : Addr, kv.2 = .ref t ∧ TabAt CT H t (shR ni.2)) kvs ps
  | _, _, .nil => ⟨[], .nil, .nil⟩
  | _, _, .cons (b := ni) h t => by
    obtain ⟨kvs, p1, p2⟩ := kvs_of t
    obtain ⟨t0, h1, h2⟩ := h
    exact ⟨(Sum.inr ni.1, .ref t0) :: kvs, .cons (SqT.of h1) p1, .cons ⟨rfl, t0, rfl, h2⟩ p2⟩
theorem putK_new {kvs : List (Key × V)} {k : Key} {v : V} (h : k ∉ kvs.map (·.1)) : putK kvs k v = kvs ++ [(k, v)] := by
  unfold putK
  rw [if_neg]
  intro e
  obtain ⟨kv, h1, h2⟩ := List.any_eq_true.mp e
  exact h (List.mem_map.mpr ⟨kv, h1, of_decide_eq_true h2⟩)
theorem mergeK_nodup : ∀ {more kvs : List (Key × V)}, ((kvs ++ more).map (·.1)).Nodup → mergeK kvs more = kvs ++ more
  | [], kvs, _ => by rw [List.append_nil]; rfl
  | kv :: more, kvs, h => by
    have hk : kv.1 ∉ kvs.map (·.1) := by
      rw [List.map_append, List.map_cons] at h
      intro hm
      have := (List.nodup_append.mp h).2.2 _ hm kv.1 List.mem_cons_self
      exact this rfl
    show mergeK (putK kvs kv.1 kv.2) more = _
    rw [putK_new hk]
    have e : kvs ++ [(kv.1, kv.2)] ++ more = kvs ++ kv :: more := by simp
    rw [mergeK_nodup (by rw [e]; exact h), e]
theorem keys_inr {R : (Key × V) → (Str × Nat) → Prop} : ∀ {kvs : List (Key × V)} {ps : List (Str × Nat)}, Paired (fun kv ni => kv.1 = Sum.inr ni.1 ∧ R kv ni) kvs ps → kvs.map (·.1) = (ps.map (·.1)).map Sum.inr
  | _, _, .nil => rfl
  | _, _, .cons a b => by rw [List.map_cons, a.1, keys_inr b]; rfl
theorem nodup_inr {ns : List Str} (h : ns.Nodup) : (ns.map (Sum.inr : Str → Key)).Nodup := by
  refine List.Pairwise.map _ (fun a b hab e => hab ?_) h
  exact Sum.inr.inj e
theorem valV_pair {R : V → Nat → Prop} : ∀ {kvs : List (Key × V)} {ps : List (Str × Nat)} {c : Str} {i : Nat}, Paired (fun (kv : Key × V) (ni : Str × Nat) => kv.1 = Sum.inr ni.1 ∧ R kv.2 ni.2) kvs ps → (ps.map (·.1)).Nodup → (c, i) ∈ ps → ∃ v, valV kvs (Sum.inr c) = some v ∧ R v i
  | _, _, _, _, .nil, _, h => by cases h
  | kv :: _, ni :: ps, c, i, .cons a b, hn, h => by
    rw [List.map_cons, List.nodup_cons] at hn
    rcases List.mem_cons.mp h with e | h
    · subst e
      exact ⟨kv.2, valV_pos a.1, a.2⟩
    · have hne : ¬ kv.1 = Sum.inr c := by
        rw [a.1]
        intro e
        have e2 : ni.1 = c := Sum.inr.inj e
        exact hn.1 (List.mem_map.mpr ⟨(c, i), h, e2.symm⟩)
      obtain ⟨v, h1, h2⟩ := valV_pair b hn.2 h
      refine ⟨v, ?_, h2⟩
      unfold valV at h1 ⊢
      rw [List.find?_cons]
      simp [hne]
      simpa using h1
section
variable {P : Program} {w : World} {K : PySem.W.Frag} {mg : Str → Option Value} {base : Heap} {f CT CS CD CB : Addr} {fd : FuncData}
theorem scChk : FnScope ["self", "pairs", "claims", "known", "index", "claim", "fault"] ["self", "pairs", "claims"] (defScope sChk) := ⟨rfl, rfl, rfl, by decide +kernel, rfl, by decide +kernel, by decide +kernel⟩
def chk (ps : List (Str × Nat)) (cs : List Str) : Bool := cs.all (gd ps)
/-- what Broken carries -/
def BkV (H : Hp) (i s : V) : Prop := ∃ (k : Int) (u : Addr) (ns : List Int), i = .int k ∧ s = .ref u ∧ H u = some (.tup (ns.map V.int))
def spChk (CT CB : Addr) : Sp := fun vs H Q E => ∃ (x : V) (p g : Addr) (ps : List (Str × Nat)) (cs : List Str), vs = [x, .ref p, .ref g] ∧ PairsF CT H p ps ∧ (ps.map (·.1)).Nodup ∧ ps.length ≤ 1000 ∧ (∀ ni ∈ ps, ni.2 < 8) ∧ ClaimsAt H g cs ∧ (∀ c ∈ cs, ∃ i, (c, i) ∈ ps) ∧
  (chk ps cs = true → ∀ H', Same H H' → Q .non H') ∧ (chk ps cs = false → ∀ (H' : Hp) (d : Addr) (i s : V), BkV H' i s → Same H H' → H' d = some (.xd [(("shown" : Str), s), (("index" : Str), i)]) → E (.ref CB) (some d) H')
theorem ok_chk {fB : Addr} {fdB : FuncData} (hcl : Cls K CD) (hme : Meth K CD "check_claims" f) (F : L2.Fun K "check_claims" "Desk.check_claims" sChk f fd) (B : Bt mg) (X : ExI K mg "Broken" CB fB bmAE nAE) (FB : L2.Fun K "__init__" "Broken.__init__" sBkInit fB fdB) (n1 : PySem.W.findIn K (.ref CB) "index" = some none) (n2 : PySem.W.findIn K (.ref CB) "shown" = some none)
    (C10 : C8.Cal P w K mg base 10 "fault_of" (spFaultOf CT) []) : MtX (L2.CX P w) P w K mg base 11 CD "check_claims" (spChk CT CB) := by
  refine metX_mk hcl hme F scChk (fun _ _ _ _ _ _ us hl => match us, hl with | [_, _, _], _ => rfl) (fun vs H Q E h => ?_) (fun cdv A outer s H vs Q E hr h => ?_)
  · obtain ⟨x, p, g, ps, cs, rfl, _⟩ := h
    rfl
  · obtain ⟨x, p, g, ps, cs, rfl, ⟨o, qs, hP, hod, hpp⟩, hnd, hlen, h8, ⟨as, hG, hga⟩, hin, q1, q2⟩ := h
    have bB : L2.Binds K fdB ["self", "index", "shown"] [] := FB.binds fun _ _ _ _ _ _ us hl => match us, hl with | [_, _, _], _ => rfl
    refine ⟨_, pss_cons (ps_set (i := 3) scChk.nd rfl (Or.inl rfl) (pe_callTy (call_dictT rfl) (by rfl) B.dict boot_dict (pa_cons (pv 1) pa_nil)))
      (pss_one (ps_for (passes_of rfl) rfl (pi_enumT (by rfl) B.enum (pa_cons (pv 2) pa_nil)) (pg_tup rfl (pgs_cons (pg_name (i := 4) scChk.nd rfl (.inl rfl)) (pgs_cons (pg_name (i := 5) scChk.nd rfl (.inl rfl)) pgs_nil)))
        (pss_cons (ps_set (i := 6) scChk.nd rfl (Or.inl rfl) (C8.pe_c C10 hr (by decide) (by rfl) (pa_cons (pv 5) (pa_cons (pv 3) pa_nil))))
          (pss_one (ps_if (pt_cmpR (op_neD hr.units) (pv 6) (pe_tup pa_nil) (nomark _))
            (pss_one (ps_raise rfl (takes_of rfl rfl rfl rfl) (pmk_oexB PySem.F.excBase_ArithmeticError X.ob X.iC X.tI (ok_bkInit FB X.ob n1 n2) (hr.mono (by decide)) bB .nil pass0 (by rfl) X.mg (pa_cons (pv 4) (pa_cons (pe_ix ix_tup (pv 6) pe_int (fun _ _ => rfl)) pa_nil))))) pss_nil))))), ?_⟩
    obtain ⟨kvs, k1, k2⟩ := kvs_of (K := K) hpp
    refine ⟨_, rfl, p, o, qs, kvs, rfl, hP, hod, k1, fun d hd => ?_⟩
    have ek : mergeK [] kvs = kvs := by
      have e := mergeK_nodup (kvs := []) (more := kvs) (by rw [List.nil_append, keys_inr k2]; exact nodup_inr hnd)
      rw [e, List.nil_append]
    rw [ek]
    have s1 : Same H (upd H d (.dK kvs)) := same_new hd
    refine ⟨_, rfl, g, _, rfl, SqT.of (s1 _ _ hG), ?_⟩
    refine for_enumT (K := K) (a := g) (xs := as.map V.ref) (fun i σ H' => Same (upd H d (.dK kvs)) H' ∧ (∃ v4 v5 v6, σ = [some x, some (.ref p), some (.ref g), some (.ref d), v4, v5, v6]) ∧ ∀ c ∈ cs.take i, gd ps c = true)
      ⟨Same.refl _, ⟨none, none, none, rfl⟩, fun c h => by simp at h⟩ (fun i σ H' _ pv => SqT.of (pv.1 _ _ (s1 _ _ hG))) ?_ ?_
    · rintro i y T σ H1 hx ⟨s2, ⟨v4, v5, v6, rfl⟩, hok⟩ hT
      obtain ⟨a, ha, rfl⟩ : ∃ t, as[i]? = some t ∧ V.ref t = y := by
        rw [List.getElem?_map] at hx
        cases e : as[i]? with
        | none => rw [e] at hx; cases hx
        | some z => rw [e] at hx; exact ⟨z, rfl, Option.some.inj hx⟩
      obtain ⟨c, hc, hca⟩ := paired_get2 hga ha
      have hcm : c ∈ cs := List.mem_of_getElem? hc
      obtain ⟨j, hj⟩ := hin c hcm
      obtain ⟨t, hv, ht⟩ := valV_pair (R := fun v i => ∃ t : Addr, v = .ref t ∧ TabAt CT H t (shR i)) k2 hnd hj
      obtain ⟨t, rfl, ht⟩ := ht
      have s3 : Same H (upd H1 T (.tup [.int (i : Nat), .ref a])) := (s1.trans s2).new hT
      obtain ⟨_, hS, h5, _⟩ := sh_at (h8 _ hj)
      have hdd := (s2.new hT (o := .tup [.int (i : Nat), .ref a])) _ _ upd_same
      refine ⟨T, _, rfl, SqT.of upd_same, rfl, _, _, rfl, _, _, rfl, rfl, ?_⟩
      refine ⟨_, rfl, _, rfl, a, d, t, c, kvs, _, _, rfl, s3 _ _ hca, hdd, hv, ht.same s3, hS, h5, fun hb H2 fp s4 hfp => ?_, fun hb H2 fp u ns s4 hfp hu => ?_⟩
      · -- no fault
        refine ⟨_, rfl, Nat.zero_le _, fun e he => ?_⟩
        refine ⟨.tuple [], .tuple [], .tup (SqT.of (same_new he _ _ hfp)) .nil, .tup (SqT.of upd_same) .nil, (Shp.tuple (n := 0) (fun d hd => by cases hd)).shaped (by decide), (Shp.tuple (n := 0) (fun d hd => by cases hd)).shaped (by decide), _, rfl, ?_⟩
        refine ifN (by simp [PyData.eqv, PyData.eqvAll]) ?_
        refine ⟨((s2.new hT).trans s4).new he, ⟨_, _, _, rfl⟩, fun c' hc' => ?_⟩
        rw [take_snoc hc] at hc'
        rcases List.mem_append.mp hc' with h | h
        · exact hok c' h
        · have e : c' = c := List.mem_singleton.mp h
          rw [e, gd_at hnd hj]
          simpa using hb
      · -- a fault
        refine ⟨_, rfl, Nat.zero_le _, fun e he => ?_⟩
        have hfp1 := same_new (o := .tup []) he _ _ hfp
        have hu1 := same_new (o := .tup []) he _ _ hu
        have shp : SeqAt.shaped (.tuple [.tuple (ns.map .int)]) = true := (Shp.tuple (n := 1) (fun d hd => by
          have e := List.mem_singleton.mp hd
          rw [e]
          exact Shp.tuple fun d hd => by
            obtain ⟨z, _, rfl⟩ := List.mem_map.mp hd
            exact .int z)).shaped (by decide)
        refine ⟨.tuple [.tuple (ns.map .int)], .tuple [], .tup (SqT.of hfp1) (.cons (.tup (SqT.of hu1) (dp_ints ns)) .nil), .tup (SqT.of upd_same) .nil, shp, (Shp.tuple (n := 0) (fun d hd => by cases hd)).shaped (by decide), _, rfl, ?_⟩
        refine ifY (by simp [PyData.eqv, PyData.eqvAll]) ?_
        refine ⟨_, rfl, _, rfl, fp, _, 0, _, rfl, rfl, SqT.of hfp1, atI_of (by decide) rfl, (by show 2 ≤ 1000; decide), fun ea hea => ?_⟩
        refine ⟨ea, _, _, rfl, upd_same, fun dx hdx hne => ⟨rfl, dx, _, ?_, upd_same, ?_, ?_⟩⟩
        · rw [upd_ne (Ne.symm hne)]
          exact upd_same
        · rw [upd_ne hne] at hdx
          exact hdx
        · have hbad : chk ps cs = false := by
            unfold chk
            rw [List.all_eq_false]
            refine ⟨c, hcm, ?_⟩
            rw [gd_at hnd hj]
            simpa using hb
          have hdx0 : upd H2 e (.tup []) dx = none := by rw [upd_ne hne] at hdx; exact hdx
          refine q2 hbad _ dx _ _ ⟨_, u, ns, rfl, rfl, ?_⟩ (fun b o e' => ?_) upd_same
          · have n1' : u ≠ ea := ne_of_none hu1 hea
            have n2' : u ≠ dx := ne_of_none hu1 hdx0
            rw [upd_ne n2', del_ne n1', upd_ne n2', upd_ne n1', upd_ne n2', upd_ne n1']
            exact hu1
          have e2 : upd H2 e (.tup []) b = some o := same_new he _ _ (s4 _ _ (s3 _ _ e'))
          have n1' : b ≠ ea := ne_of_none e2 hea
          have hdx0 : upd H2 e (.tup []) dx = none := by rw [upd_ne hne] at hdx; exact hdx
          have n2' : b ≠ dx := ne_of_none e2 hdx0
          rw [upd_ne n2', del_ne n1', upd_ne n2', upd_ne n1', upd_ne n2', upd_ne n1']
          exact e2
    · rintro σ H1 ⟨s2, ⟨v4, v5, v6, rfl⟩, hok⟩
      refine q1 ?_ H1 (s1.trans s2)
      unfold chk
      rw [List.all_eq_true]
      intro c hc
      refine hok c ?_
      have e : (as.map V.ref).length = cs.length := by rw [List.length_map]; exact paired_len hga
      rw [e, List.take_length]
      exact hc
end
end Ky
end

section
set_option Elab.async false
set_option linter.all false
set_option maxRecDepth 100000
set_option maxHeartbeats 2000000
namespace Ky
open PySem PySem.Spec PyProof.Rows L2
/-! the desk's objects -/
abbrev Snap := List (Str × Nat) × List Str
def sortedN (ps : List (Str × Nat)) : Prop := ps.Pairwise fun a b => ¬ (b.1.cps.toList < a.1.cps.toList)
def PairsX (CT : Addr) (H : Hp) (p : Addr) (ps : List (Str × Nat)) : Prop := (ps = [] ∧ H p = some (.tup [])) ∨ PairsF CT H p ps
def SnapAt (CT : Addr) (H : Hp) (p g : Addr) (x : Snap) : Prop := (∃ ps, ps.Perm x.1 ∧ sortedN ps ∧ PairsX CT H p ps) ∧ ClaimsAt H g x.2
def ShelfAt (CT CS : Addr) (H : Hp) : Addr → List Snap → Prop
  | _, [] => False
  | s, [x] => ∃ dx p g : Addr, H s = some (.ins CS dx (sf (.ref p) (.ref g) .non (.int 0))) ∧ SnapAt CT H p g x
  | s, x :: y :: r => ∃ dx p g b : Addr, H s = some (.ins CS dx (sf (.ref p) (.ref g) (.ref b) (.int (r.length + 1 : Nat)))) ∧ SnapAt CT H p g x ∧ ShelfAt CT CS H b (y :: r)
def df (s : Addr) : List (Str × V) := putF "shelf" (.ref s) []
theorem df_shelf (s : Addr) : (df s).lookup ("shelf" : Str) = some (.ref s) := by
  unfold df
  rw [lookup_putF, if_pos rfl]
theorem df_no (s : Addr) {m : Str} (h : ¬ m = "shelf") : (df s).lookup m = none := by
  unfold df
  rw [lookup_putF, if_neg h]
  rfl
theorem df_put (s t : Addr) : putF "shelf" (.ref t) (df s) = df t := by
  show (if ("shelf" : Str) = "shelf" then [(("shelf" : Str), V.ref t)] else _) = [(("shelf" : Str), V.ref t)]
  rw [if_pos rfl]
def DeskAt (CT CS CD : Addr) (H : Hp) (D : Addr) (st : List Snap) : Prop := ∃ dx s : Addr, H D = some (.ins CD dx (df s)) ∧ ShelfAt CT CS H s st
/-- objects that no method changes -/
def Fx (CT CS : Addr) : HO → Prop
  | .tup _ => True
  | .frz _ _ => True
  | .ins C _ _ => C = CT ∨ C = CS
  | _ => False
def KeepF (CT CS : Addr) (H H' : Hp) : Prop := ∀ b o, H b = some o → Fx CT CS o → H' b = some o
theorem KeepF.of {CT CS : Addr} {H H' : Hp} (s : Same H H') : KeepF CT CS H H' := fun b o e _ => s b o e
theorem KeepF.trans {CT CS : Addr} {H H1 H2 : Hp} (a : KeepF CT CS H H1) (b : KeepF CT CS H1 H2) : KeepF CT CS H H2 := fun c o e f => b c o (a c o e f) f
section
variable {CT CS : Addr} {H H' : Hp}
theorem TabAt.keep {t : Addr} {rows : List (List Int)} (h : TabAt CT H t rows) (k : KeepF CT CS H H') : TabAt CT H' t rows := by
  obtain ⟨dx, r, h1, rs, h2, h3⟩ := h
  exact ⟨dx, r, k _ _ h1 (.inl rfl), rs, k _ _ h2 True.intro, paired_mono h3 fun a row _ e => k _ _ e True.intro⟩
theorem PairAtD.keep {q : Addr} {ni : Str × Nat} (h : PairAtD CT H q ni) (k : KeepF CT CS H H') : PairAtD CT H' q ni := by
  obtain ⟨t, h1, h2⟩ := h
  exact ⟨t, k _ _ h1 True.intro, h2.keep k⟩
theorem PairsF.keep {p : Addr} {ps : List (Str × Nat)} (h : PairsF CT H p ps) (k : KeepF CT CS H H') : PairsF CT H' p ps := by
  obtain ⟨o, qs, h1, h2, h3⟩ := h
  exact ⟨o, qs, k _ _ h1 True.intro, h2, paired_mono h3 fun _ _ _ e => e.keep k⟩
theorem PairsX.keep {p : Addr} {ps : List (Str × Nat)} (h : PairsX CT H p ps) (k : KeepF CT CS H H') : PairsX CT H' p ps := by
  rcases h with ⟨h1, h2⟩ | h
  · exact .inl ⟨h1, k _ _ h2 True.intro⟩
  · exact .inr (h.keep k)
theorem ClaimsAt.keep {g : Addr} {cs : List Str} (h : ClaimsAt H g cs) (k : KeepF CT CS H H') : ClaimsAt H' g cs := by
  obtain ⟨as, h1, h2⟩ := h
  exact ⟨as, k _ _ h1 True.intro, paired_mono h2 fun _ _ _ e => k _ _ e True.intro⟩
theorem SnapAt.keep {p g : Addr} {x : Snap} (h : SnapAt CT H p g x) (k : KeepF CT CS H H') : SnapAt CT H' p g x := by
  obtain ⟨⟨ps, h1, h2, h3⟩, h4⟩ := h
  exact ⟨⟨ps, h1, h2, h3.keep k⟩, h4.keep k⟩
theorem ShelfAt.keep : ∀ {st : List Snap} {s : Addr}, ShelfAt CT CS H s st → KeepF CT CS H H' → ShelfAt CT CS H' s st
  | [], _, h, _ => h.elim
  | [x], s, h, k => by
    obtain ⟨dx, p, g, h1, h2⟩ := h
    exact ⟨dx, p, g, k _ _ h1 (.inr rfl), h2.keep k⟩
  | x :: y :: r, s, h, k => by
    obtain ⟨dx, p, g, b, h1, h2, h3⟩ := h
    exact ⟨dx, p, g, b, k _ _ h1 (.inr rfl), h2.keep k, ShelfAt.keep h3 k⟩
/-- the items of the pairs' tuple -/
theorem PairsX.seq {K : PySem.W.Frag} {p : Addr} {ps : List (Str × Nat)} (h : PairsX CT H p ps) : ∃ qs : List Addr, SqT K H p (qs.map V.ref) ∧ Paired (PairAtD CT H) qs ps := by
  rcases h with ⟨rfl, h2⟩ | ⟨o, qs, h1, h2, h3⟩
  · exact ⟨[], SqT.of h2, .nil⟩
  · exact ⟨qs, .inl (.inr ⟨o, h1⟩), h3⟩
/-- the top shelf: its fields -/
theorem ShelfAt.top {s : Addr} {x : Snap} {r : List Snap} (h : ShelfAt CT CS H s (x :: r)) : ∃ (dx p g : Addr) (b : V), H s = some (.ins CS dx (sf (.ref p) (.ref g) b (.int r.length))) ∧ SnapAt CT H p g x ∧
    ((r = [] ∧ b = .non) ∨ ∃ b', b = .ref b' ∧ ShelfAt CT CS H b' r) := by
  cases r with
  | nil =>
    obtain ⟨dx, p, g, h1, h2⟩ := h
    exact ⟨dx, p, g, .non, h1, h2, .inl ⟨rfl, rfl⟩⟩
  | cons y r =>
    obtain ⟨dx, p, g, b, h1, h2, h3⟩ := h
    exact ⟨dx, p, g, .ref b, h1, h2, .inr ⟨b, rfl, h3⟩⟩
/-- a shelf over such a one -/
theorem ShelfAt.push {s s0 dx p g : Addr} {x y : Snap} {r : List Snap} (h1 : H s = some (.ins CS dx (sf (.ref p) (.ref g) (.ref s0) (.int (r.length + 1 : Nat))))) (h2 : SnapAt CT H p g x) (h3 : ShelfAt CT CS H s0 (y :: r)) : ShelfAt CT CS H s (x :: y :: r) := ⟨dx, p, g, s0, h1, h2, h3⟩
end
/-- what a method changes: the desk, and tables of code objects -/
def KeepX (D : Addr) (H H' : Hp) : Prop := ∀ b o, H b = some o → b ≠ D → (∀ ps, o ≠ .tbl ps) → H' b = some o
theorem KeepX.of {D : Addr} {H H' : Hp} (s : Same H H') : KeepX D H H' := fun b o e _ _ => s b o e
theorem KeepX.trans {D : Addr} {H H1 H2 : Hp} (a : KeepX D H H1) (b : KeepX D H1 H2) : KeepX D H H2 := fun c o e h1 h2 => b c o (a c o e h1 h2) h1 h2
theorem KeepX.fix {D CT CS CD dx : Addr} {fs : List (Str × V)} {H H' : Hp} (k : KeepX D H H') (hD : H D = some (.ins CD dx fs)) (n1 : CD ≠ CT) (n2 : CD ≠ CS) : KeepF CT CS H H' := fun b o e f => by
  refine k b o e (fun z => ?_) (fun ps z => ?_)
  · rw [z, hD] at e
    cases e
    rcases f with f | f
    · exact n1 f
    · exact n2 f
  · rw [z] at f
    exact f
structure DkT (K : PySem.W.Frag) (mg : Str → Option Value) (CT CS CD : Addr) : Prop where
  cl : Cls K CD
  nS : NoAttr K CD "shelf"
  ne1 : CD ≠ CT
  ne2 : CD ≠ CS
  mgD : mg "Desk" = some (.ref CD)
section
variable {P : Program} {w : World} {K : PySem.W.Frag} {mg : Str → Option Value} {base : Heap} {f CT CS CD CB CU : Addr} {fd : FuncData}
/-! the properties -/
theorem scNames : FnScope ["self", "name", "table"] ["self"] (defScope sNames) := ⟨rfl, rfl, rfl, by decide +kernel, rfl, by decide +kernel, by decide +kernel⟩
theorem scClaims : FnScope ["self"] ["self"] (defScope sClaims) := ⟨rfl, rfl, rfl, by decide +kernel, rfl, by decide +kernel, by decide +kernel⟩
theorem scChanges : FnScope ["self"] ["self"] (defScope sChanges) := ⟨rfl, rfl, rfl, by decide +kernel, rfl, by decide +kernel, by decide +kernel⟩
def namesV (ps : List (Str × Nat)) : List V := ps.map fun ni => .str ni.1
def spNames (CT CS CD : Addr) : Sp := fun vs H Q _ => ∃ (D : Addr) (x : Snap) (r : List Snap), vs = [.ref D] ∧ DeskAt CT CS CD H D (x :: r) ∧ x.1.length ≤ 1000 ∧
  ∀ (H' : Hp) (p : Addr) (ps : List (Str × Nat)), Same H H' → ps.Perm x.1 → sortedN ps → H' p = some (.tup (namesV ps)) → Q (.ref p) H'
theorem ok_names (F : L2.Fun K "names" "Desk.names" sNames f fd) (T : DkT K mg CT CS CD) (TS : ShT K mg CS) (B : Bt mg) : FnOk P w K mg base L2.CX0 1 f fd ["self"] (spNames CT CS CD) := by
  refine F.ok scNames (fun vs H Q E h => ?_) (fun cdv A outer s H vs Q E hr h => ?_)
  · obtain ⟨D, x, r, rfl, _⟩ := h
    rfl
  · obtain ⟨D, x, r, rfl, ⟨dx, sh, hD, hSh⟩, hlen, q⟩ := h
    obtain ⟨dx2, p, g, b, hs, ⟨⟨ps, hperm, hsort, hX⟩, _⟩, _⟩ := hSh.top
    obtain ⟨qs, hq, hpp⟩ := hX.seq (K := K)
    refine ⟨_, pss_one (ps_ret (pe_callTy call_tupO (by rfl) B.tuple boot_tuple (pa_cons
      (pe_lc (te := tVar 1) (own := [("name", 1), ("table", 2)]) (g := gTup K 2 (gCons (gName 1) (gCons (gName 2) gNil))) (tt := tYes) rfl scNames.nd (pi_tup (pe_fld (pe_fld (pv 0) rfl) rfl)) (blkOk_by (N := ["self", "name", "table"]) (sc := defScope sNames) (by decide +kernel))
        (fun _ _ _ _ _ => pg_tup rfl (pgs_cons (pg_name (i := 1) scNames.nd rfl (.inl rfl)) (pgs_cons (pg_name (i := 2) scNames.nd rfl (.inl rfl)) pgs_nil))) (fun _ _ _ _ _ => pts_nil) (fun _ _ _ _ _ => pv 1)) pa_nil))), ?_⟩
    refine ⟨_, rfl, D, CD, dx, _, _, rfl, hD, T.cl, T.nS, df_shelf sh, sh, CS, dx2, _, _, rfl, hs, TS.cl, TS.nP, sf_pairs _ _ _ _, p, rfl, ⟨_, hq⟩, fun D2 hD2 => ?_⟩
    refine lcM (walk_tup (K := K) (a := p) (xs := qs.map V.ref)) (fun x y _ => ∃ (q : Addr) (n : Str) (v : V), x = .ref q ∧ H q = some (.tup [.str n, v]) ∧ y = .str n) (fun _ _ _ _ r _ => r) (fun H1 s1 => s1.tup hq) hD2 ?_ (fun i y H1 Ny hx s1 _ hy => ?_) (fun H1 acc s1 hacc pr => ?_)
    · rw [List.length_map, paired_len hpp, hperm.length_eq]
      omega
    · obtain ⟨q0, hq0, rfl⟩ : ∃ t, t ∈ qs ∧ V.ref t = y := List.mem_map.mp (List.mem_of_getElem? hx)
      obtain ⟨ni, _, t, h1, _⟩ := paired_left hpp hq0
      exact ⟨q0, _, rfl, SqT.of (s1 _ _ h1), rfl, _, _, rfl, _, _, rfl, rfl, rfl, _, rfl, hy _ _ (Same.refl _) ⟨q0, ni.1, .ref t, rfl, h1, rfl⟩⟩
    · have e : acc = namesV ps := by
        have g : ∀ {qs : List Addr} {ps : List (Str × Nat)} {acc : List V}, Paired (PairAtD CT H) qs ps → Paired (fun x y => ∃ (q : Addr) (n : Str) (v : V), x = V.ref q ∧ H q = some (.tup [.str n, v]) ∧ y = V.str n) (qs.map V.ref) acc → acc = namesV ps := by
          intro qs
          induction qs with
          | nil =>
            intro ps acc p1 p2
            cases p1
            cases p2
            rfl
          | cons q qs ih =>
            intro ps acc p1 p2
            cases p1 with
            | cons a1 b1 =>
              cases p2 with
              | cons a2 b2 =>
                obtain ⟨q', n, v, e1, e2, e3⟩ := a2
                obtain ⟨t, e4, _⟩ := a1
                cases e1
                rw [e4] at e2
                cases e2
                rw [e3, ih b1 b2]
                rfl
        exact g hpp pr
      subst e
      exact ⟨D2, _, rfl, .inl ⟨SqL.of hacc, fun l hl => q _ l ps (s1.new hl) hperm hsort upd_same⟩⟩
def spClaims (CT CS CD : Addr) : Sp := fun vs H Q _ => ∃ (D : Addr) (x : Snap) (r : List Snap), vs = [.ref D] ∧ DeskAt CT CS CD H D (x :: r) ∧ ∀ g, ClaimsAt H g x.2 → Q (.ref g) H
theorem ok_claims (F : L2.Fun K "claims" "Desk.claims" sClaims f fd) (T : DkT K mg CT CS CD) (TS : ShT K mg CS) : FnOk P w K mg base L2.CX0 1 f fd ["self"] (spClaims CT CS CD) := by
  refine F.ok scClaims (fun vs H Q E h => ?_) (fun cdv A outer s H vs Q E hr h => ?_)
  · obtain ⟨D, x, r, rfl, _⟩ := h
    rfl
  · obtain ⟨D, x, r, rfl, ⟨dx, sh, hD, hSh⟩, q⟩ := h
    obtain ⟨dx2, p, g, b, hs, ⟨_, hg⟩, _⟩ := hSh.top
    refine ⟨_, pss_one (ps_ret (pe_fld (pe_fld (pv 0) rfl) rfl)), ?_⟩
    exact ⟨_, rfl, D, CD, dx, _, _, rfl, hD, T.cl, T.nS, df_shelf sh, sh, CS, dx2, _, _, rfl, hs, TS.cl, TS.nG, sf_pledges _ _ _ _, q g hg⟩
def spChanges (CT CS CD : Addr) : Sp := fun vs H Q _ => ∃ (D : Addr) (x : Snap) (r : List Snap), vs = [.ref D] ∧ DeskAt CT CS CD H D (x :: r) ∧ Q (.int r.length) H
theorem ok_changes (F : L2.Fun K "changes" "Desk.changes" sChanges f fd) (T : DkT K mg CT CS CD) (TS : ShT K mg CS) : FnOk P w K mg base L2.CX0 1 f fd ["self"] (spChanges CT CS CD) := by
  refine F.ok scChanges (fun vs H Q E h => ?_) (fun cdv A outer s H vs Q E hr h => ?_)
  · obtain ⟨D, x, r, rfl, _⟩ := h
    rfl
  · obtain ⟨D, x, r, rfl, ⟨dx, sh, hD, hSh⟩, q⟩ := h
    obtain ⟨dx2, p, g, b, hs, _, _⟩ := hSh.top
    refine ⟨_, pss_one (ps_ret (pe_fld (pe_fld (pv 0) rfl) rfl)), ?_⟩
    exact ⟨_, rfl, D, CD, dx, _, _, rfl, hD, T.cl, T.nS, df_shelf sh, sh, CS, dx2, _, _, rfl, hs, TS.cl, TS.nD, sf_depth _ _ _ _, q⟩
end
end Ky
end

section
set_option Elab.async false
set_option linter.all false
set_option maxRecDepth 100000
set_option maxHeartbeats 2000000
namespace Ky
open PySem PySem.Spec PyProof.Rows L2
theorem inV_names {z : Str} : ∀ {ps : List (Str × Nat)}, inV (.str z) (namesV ps) = decide (z ∈ ps.map (·.1))
  | [] => by simp [inV, namesV]
  | ni :: ps => by
    have ih := inV_names (z := z) (ps := ps)
    unfold inV at ih ⊢
    rw [show namesV (ni :: ps) = .str ni.1 :: namesV ps from rfl, List.any_cons, ih]
    by_cases h : ni.1 = z
    · simp [eqV, h]
    · have h2 : ¬ z = ni.1 := fun e => h e.symm
      have e : (ni.1 == z) = false := by simpa using h
      simp only [eqV, List.map_cons, List.mem_cons, e, h2, false_or, Bool.false_or]
theorem namesV_flat (ps : List (Str × Nat)) : (namesV ps).all flatV = true := by
  rw [List.all_eq_true]
  intro x hx
  obtain ⟨ni, _, rfl⟩ := List.mem_map.mp hx
  rfl
open Classical in
/-- the text ahead in the tuple that x is -/
noncomputable def nmOf (H : Hp) (x : V) : Str := if h : ∃ (n : Str) (t : Addr) (r : List V), x = V.ref t ∧ H t = some (.tup (.str n :: r)) then h.choose else ""
theorem nmOf_eq {H : Hp} {t : Addr} {n : Str} {r : List V} (h : H t = some (.tup (.str n :: r))) : nmOf H (.ref t) = n := by
  have e : ∃ (n : Str) (t' : Addr) (r : List V), V.ref t = V.ref t' ∧ H t' = some (.tup (.str n :: r)) := ⟨n, t, r, rfl, h⟩
  unfold nmOf
  rw [dif_pos e]
  obtain ⟨t', r', e1, e2⟩ := e.choose_spec
  cases e1
  rw [h] at e2
  have e3 := Option.some.inj e2
  have e4 : V.str n :: r = V.str e.choose :: r' := HO.tup.inj e3
  have e5 : V.str n = V.str e.choose := (List.cons.inj e4).1
  exact (V.str.inj e5).symm
/-- the pairs of other names -/
theorem filt_pairs {CT : Addr} {H : Hp} {z : Str} : ∀ {qs : List Addr} {ps : List (Str × Nat)}, Paired (PairAtD CT H) qs ps →
    ∃ qs', (qs.map V.ref).filter (fun x => decide (nmOf H x ≠ z)) = qs'.map V.ref ∧ Paired (PairAtD CT H) qs' (ps.filter fun ni => decide (ni.1 ≠ z))
  | _, _, .nil => ⟨[], rfl, .nil⟩
  | _, _, .cons (a := q) (b := ni) h t => by
    obtain ⟨qs', e, p⟩ := filt_pairs (z := z) t
    obtain ⟨tt, h1, h2⟩ := id h
    rw [List.map_cons, List.filter_cons, List.filter_cons, nmOf_eq h1]
    by_cases hz : ni.1 = z
    · simp only [hz]
      exact ⟨qs', by simpa using e, by simpa using p⟩
    · simp only [ne_eq, hz, not_false_eq_true, decide_true, if_true]
      exact ⟨q :: qs', by rw [List.map_cons, ← e], .cons h (by simpa using p)⟩
theorem sorted_filter {ps : List (Str × Nat)} {f : Str × Nat → Bool} (h : sortedN ps) : sortedN (ps.filter f) := List.Pairwise.filter _ h
section
variable {CT CS CD D sh s dx dxD p g : Addr} {x x' : Snap} {r : List Snap} {H1 H2 : Hp}
/-- a new shelf on top -/
theorem desk_push (hD1 : H1 D = some (.ins CD dxD (df sh))) (hSh : ShelfAt CT CS H1 sh (x :: r)) (hs : H1 s = none) (hdx : H1 dx = none) (ne1 : CD ≠ CT) (ne2 : CD ≠ CS)
    (k : ∀ b o, b ≠ s → (upd (upd H1 dx (.own s)) s (.ins CS dx [])) b = some o → H2 b = some o) (h2 : H2 s = some (.ins CS dx (sf (.ref p) (.ref g) (.ref sh) (.int (r.length + 1 : Nat))))) (hx : SnapAt CT H1 p g x') :
    (∀ b o, H1 b = some o → b ≠ D → (upd H2 D (.ins CD dxD (df s))) b = some o) ∧ DeskAt CT CS CD (upd H2 D (.ins CD dxD (df s))) D (x' :: x :: r) := by
  have s12 : Same H1 H2 := fun b o e => by
    have n1 := ne_of_none e hs
    have n2 := ne_of_none e hdx
    exact k b o n1 (by rw [upd_ne n1, upd_ne n2]; exact e)
  have hsD : s ≠ D := fun z => by
    rw [z, hD1] at hs
    cases hs
  have kp : ∀ b o, H1 b = some o → b ≠ D → (upd H2 D (.ins CD dxD (df s))) b = some o := fun b o e hb => by
    rw [upd_ne hb]
    exact s12 b o e
  have kf : KeepF CT CS H1 (upd H2 D (.ins CD dxD (df s))) := KeepX.fix (D := D) (fun b o e h _ => kp b o e h) hD1 ne1 ne2
  exact ⟨kp, dxD, s, upd_same, ShelfAt.push (by rw [upd_ne hsD]; exact h2) (hx.keep kf) (hSh.keep kf)⟩
/-- what Shelf.__init__ is told -/
theorem depth_push {d : Nat} {H1 : Hp} (hSh : ShelfAt CT CS H1 sh (x :: r)) (hs : H1 s = none) (hdx : H1 dx = none) : DepthOf CS (upd (upd H1 dx (.own s)) s (.ins CS dx [])) (.ref sh) (r.length + 1) ∧ sh ≠ s := by
  obtain ⟨dx2, p0, g0, b0, h1, _, _⟩ := hSh.top
  have n1 := ne_of_none h1 hs
  have n2 := ne_of_none h1 hdx
  exact ⟨.inr ⟨sh, dx2, _, _, _, r.length, rfl, by rw [upd_ne n1, upd_ne n2]; exact h1, rfl⟩, n1⟩
end
section
variable {P : Program} {w : World} {K : PySem.W.Frag} {mg : Str → Option Value} {base : Heap} {f CT CS CD CB CU CI CN fS pN gN : Addr} {fd fdS fdN : FuncData}
theorem scCont : FnScope ["self", "name"] ["self", "name"] (defScope sCont) := ⟨rfl, rfl, rfl, by decide +kernel, rfl, by decide +kernel, by decide +kernel⟩
def spCont (CT CS CD : Addr) : Sp := fun vs H Q _ => ∃ (D : Addr) (z : Str) (x : Snap) (r : List Snap), vs = [.ref D, .str z] ∧ NameOk z ∧ DeskAt CT CS CD H D (x :: r) ∧ x.1.length ≤ 1000 ∧ ∀ H', Same H H' → Q (.bl (decide (z ∈ x.1.map (·.1)))) H'
theorem ok_cont (F : L2.Fun K "__contains__" "Desk.__contains__" sCont f fd) (T : DkT K mg CT CS CD) (C1 : C8.Cal P w K mg base 1 "is_name" spIsName []) (hp : PropOf K CD "names" pN gN) (bN : L2.Binds K fdN ["self"] []) (FN : FnOk P w K mg base L2.CX0 1 gN fdN ["self"] (spNames CT CS CD)) : FnOk P w K mg base L2.CX0 3 f fd ["self", "name"] (spCont CT CS CD) := by
  refine F.ok scCont (fun vs H Q E h => ?_) (fun cdv A outer s H vs Q E hr h => ?_)
  · obtain ⟨D, z, x, r, rfl, _⟩ := h
    rfl
  · obtain ⟨D, z, x, r, rfl, hz, hD, hlen, q⟩ := h
    refine ⟨_, pss_one (ps_ret (pe_and (C8.pe_c C1 hr (by decide) (by rfl) (pa_cons (pv 1) pa_nil)) (pe_one (pe_cmpR op_in_seq (pv 1) (pe_prop (pv 0) T.cl hp FN (hr.mono (by decide)) bN .nil pass0 (by rfl)) (by rfl))))), ?_⟩
    refine ⟨_, rfl, z, rfl, hz, fun H1 s1 => ⟨true, rfl, iteT ?_⟩⟩
    have kf : KeepF CT CS H H1 := KeepF.of s1
    obtain ⟨dxD, sh, hD1, hS1⟩ := hD
    refine ⟨_, rfl, _, rfl, D, dxD, _, rfl, s1 _ _ hD1, D, x, r, rfl, ⟨dxD, sh, s1 _ _ hD1, hS1.keep kf⟩, hlen, fun H2 p ps s2 hperm _ hp2 => ?_⟩
    refine ⟨p, _, rfl, .inr (SqT.of hp2), rfl, namesV_flat ps, ?_⟩
    rw [inV_names]
    have e : decide (z ∈ ps.map (·.1)) = decide (z ∈ x.1.map (·.1)) := by
      have := (hperm.map (fun ni : Str × Nat => ni.1)).mem_iff (a := z)
      simp only [this]
    show Q (.bl (decide (z ∈ ps.map (·.1)))) H2
    rw [e]
    exact q _ (s1.trans s2)
theorem scKnown : FnScope ["self", "name"] ["self", "name"] (defScope sKnown) := ⟨rfl, rfl, rfl, by decide +kernel, rfl, by decide +kernel, by decide +kernel⟩
def spKnown (CT CS CD CU : Addr) : Sp := fun vs H Q E => ∃ (D : Addr) (z : Str) (x : Snap) (r : List Snap), vs = [.ref D, .str z] ∧ NameOk z ∧ DeskAt CT CS CD H D (x :: r) ∧ x.1.length ≤ 1000 ∧ (z ∈ x.1.map (·.1) → ∀ H', Same H H' → Q .non H') ∧
  (z ∉ x.1.map (·.1) → ∀ (H' : Hp) (d : Addr), Same H H' → H' d = some (.xd [(("given" : Str), .str z)]) → E (.ref CU) (some d) H')
theorem ok_known {fC fU : Addr} {fdC fdU : FuncData} (hme : Meth K CD "check_known" f) (F : L2.Fun K "check_known" "Desk.check_known" sKnown f fd) (T : DkT K mg CT CS CD) (hmc : Meth K CD "__contains__" fC) (bC : L2.Binds K fdC ["self", "name"] []) (FC : FnOk P w K mg base L2.CX0 3 fC fdC ["self", "name"] (spCont CT CS CD))
    (XU : ExI K mg "UnknownName" CU fU bmLE nLE) (FU : L2.Fun K "__init__" "UnknownName.__init__" sUnInit fU fdU) (nG : PySem.W.findIn K (.ref CU) "given" = some none) : MtX (L2.CX P w) P w K mg base 4 CD "check_known" (spKnown CT CS CD CU) := by
  refine metX_mk T.cl hme F scKnown (fun _ _ _ _ _ _ us hl => match us, hl with | [_, _], _ => rfl) (fun vs H Q E h => ?_) (fun cdv A outer s H vs Q E hr h => ?_)
  · obtain ⟨D, z, x, r, rfl, _⟩ := h
    rfl
  · obtain ⟨D, z, x, r, rfl, hz, hD, hlen, q1, q2⟩ := h
    have bU : L2.Binds K fdU ["self", "given"] [] := FU.binds fun _ _ _ _ _ _ us hl => match us, hl with | [_, _], _ => rfl
    refine ⟨_, pss_one (ps_if (pt_cmpR (op_notInO hmc FC hr bC pass0) (pv 1) (pv 0) (by rfl))
      (pss_one (ps_raise rfl (takes_of rfl rfl rfl rfl) (pmk_oexB PySem.F.excBase_LookupError XU.ob XU.iC XU.tI (ok_unInit FU XU.ob nG) (hr.mono (by decide)) bU .nil pass0 (by rfl) XU.mg (pa_cons (pv 1) pa_nil)))) pss_nil), ?_⟩
    obtain ⟨dxD, sh, hD1, hS1⟩ := id hD
    refine ⟨_, rfl, _, rfl, D, dxD, _, rfl, hD1, D, z, x, r, rfl, hz, hD, hlen, fun H1 s1 => ⟨_, rfl, _, rfl, ?_⟩⟩
    by_cases hm : z ∈ x.1.map (·.1)
    · refine ifN (by rw [decide_eq_true hm]; rfl) ?_
      exact q1 hm H1 s1
    · refine ifY (by rw [decide_eq_false hm]; rfl) ?_
      refine ⟨_, rfl, (by show 1 ≤ 1000; decide), fun ea hea => ?_⟩
      refine ⟨ea, _, rfl, upd_same, fun dx hdx hne => ⟨rfl, dx, [(("given" : Str), .str z)], upd_same, ?_, ?_, ?_⟩⟩
      · rw [upd_ne hne]
        exact upd_same
      · rw [upd_ne hne] at hdx
        exact hdx
      · exact q2 hm _ dx (s1.trans (raised_same hea hdx hne)) upd_same
theorem scThing : FnScope ["self", "name"] ["self", "name"] (defScope sThing) := ⟨rfl, rfl, rfl, by decide +kernel, rfl, by decide +kernel, by decide +kernel⟩
theorem pairsF_of {H : Hp} {p : Addr} {ps : List (Str × Nat)} {ni : Str × Nat} (h : PairsX CT H p ps) (hm : ni ∈ ps) : PairsF CT H p ps := by
  rcases h with ⟨rfl, _⟩ | h
  · cases hm
  · exact h
def spThing (CT CS CD : Addr) : Sp := fun vs H Q _ => ∃ (D : Addr) (z : Str) (i : Nat) (x : Snap) (r : List Snap), vs = [.ref D, .str z] ∧ NameOk z ∧ DeskAt CT CS CD H D (x :: r) ∧ x.1.length ≤ 1000 ∧ (x.1.map (·.1)).Nodup ∧ (z, i) ∈ x.1 ∧
  ∀ (H' : Hp) (t : Addr), Same H H' → TabAt CT H' t (shR i) → Q (.ref t) H'
theorem ok_thing (hme : Meth K CD "thing" f) (F : L2.Fun K "thing" "Desk.thing" sThing f fd) (T : DkT K mg CT CS CD) (TS : ShT K mg CS) (B : Bt mg) (MK : MtX (L2.CX P w) P w K mg base 4 CD "check_known" (spKnown CT CS CD CU)) : MtX (L2.CX P w) P w K mg base 5 CD "thing" (spThing CT CS CD) := by
  refine metX_mk T.cl hme F scThing (fun _ _ _ _ _ _ us hl => match us, hl with | [_, _], _ => rfl) (fun vs H Q E h => ?_) (fun cdv A outer s H vs Q E hr h => ?_)
  · obtain ⟨D, z, i, x, r, rfl, _⟩ := h
    rfl
  · obtain ⟨D, z, i, x, r, rfl, hz, hD, hlen, hnd, hm, q⟩ := h
    refine ⟨_, pss_cons (ps_expr (pe_mX MK hr (by decide) (pv 0) (passes_call (takes_of rfl rfl rfl rfl) (fun _ _ _ _ h => h)) (pa_cons (pv 1) pa_nil)))
      (pss_one (ps_ret (pe_dget (hu_of hr) (pe_callTy (call_dictT rfl) (by rfl) B.dict boot_dict (pa_cons (pe_fld (pe_fld (pv 0) rfl) rfl) pa_nil)) (pv 1) (fun _ _ => rfl)))), ?_⟩
    obtain ⟨dxD, sh, hD1, hS1⟩ := id hD
    refine ⟨_, rfl, D, dxD, _, rfl, hD1, df_no _ (by decide +kernel), _, rfl, D, z, x, r, rfl, hz, hD, hlen, fun _ H1 s1 => ?_, fun hn => absurd (List.mem_map.mpr ⟨(z, i), hm, rfl⟩) hn⟩
    have kf : KeepF CT CS H H1 := KeepF.of s1
    obtain ⟨dx2, p, g, b, hs, ⟨⟨ps, hperm, hsort, hX⟩, _⟩, _⟩ := (hS1.keep kf).top
    have hm2 : (z, i) ∈ ps := hperm.mem_iff.mpr hm
    obtain ⟨o, qs, hP, hod, hpp⟩ := pairsF_of hX hm2
    obtain ⟨kvs, k1, k2⟩ := kvs_of (K := K) hpp
    have hnd2 : (ps.map (·.1)).Nodup := (hperm.map (fun ni : Str × Nat => ni.1)).nodup_iff.mpr hnd
    obtain ⟨v, hv, t, rfl, ht⟩ := valV_pair (R := fun v i => ∃ t : Addr, v = .ref t ∧ TabAt CT H1 t (shR i)) k2 hnd2 hm2
    refine ⟨_, rfl, D, CD, dxD, _, _, rfl, s1 _ _ hD1, T.cl, T.nS, df_shelf sh, sh, CS, dx2, _, _, rfl, hs, TS.cl, TS.nP, sf_pairs _ _ _ _, p, o, qs, kvs, rfl, hP, hod, k1, fun d hd => ?_⟩
    have ek : mergeK [] kvs = kvs := by
      have e := mergeK_nodup (kvs := []) (more := kvs) (by rw [List.nil_append, keys_inr k2]; exact nodup_inr hnd2)
      rw [e, List.nil_append]
    rw [ek]
    have gg := DGet.k (H := upd H1 d (.dK kvs)) (k := Sum.inr z) upd_same
    rw [hv] at gg
    exact ⟨_, rfl, d, _, rfl, gg, q _ t (s1.trans (same_new hd)) (ht.same (same_new hd))⟩
/-! undo -/
theorem scUndo : FnScope ["self"] ["self"] (defScope sUndo) := ⟨rfl, rfl, rfl, by decide +kernel, rfl, by decide +kernel, by decide +kernel⟩
def spUndo (CT CS CD CN : Addr) : Sp := fun vs H Q E => ∃ (D : Addr) (x : Snap) (r : List Snap), vs = [.ref D] ∧ DeskAt CT CS CD H D (x :: r) ∧ (r = [] → E (.ref CN) none H) ∧
  (r ≠ [] → ∀ H', (∀ b o, H b = some o → b ≠ D → H' b = some o) → DeskAt CT CS CD H' D r → Q .non H')
theorem ok_undo (hme : Meth K CD "undo" f) (F : L2.Fun K "undo" "Desk.undo" sUndo f fd) (T : DkT K mg CT CS CD) (TS : ShT K mg CS) (xN : PySem.W.excIn K CN bmLE nLE = true) (gN' : mg "NothingToUndo" = some (.ref CN)) (kN : PySem.W.keepIn K (.ref CN) = true)
    (bN : PySem.W.subIn K (.ref CN) (.type "BaseException") = some true) (tN : PySem.W.typeIn K (.ref CN) = some (.type "type")) : MtX (L2.CX P w) P w K mg base 1 CD "undo" (spUndo CT CS CD CN) := by
  refine metX_mk T.cl hme F scUndo (fun _ _ _ _ _ _ us hl => match us, hl with | [_], _ => rfl) (fun vs H Q E h => ?_) (fun cdv A outer s H vs Q E hr h => ?_)
  · obtain ⟨D, x, r, rfl, _⟩ := h
    rfl
  · obtain ⟨D, x, r, rfl, ⟨dxD, sh, hD1, hS1⟩, q1, q2⟩ := h
    obtain ⟨dx2, p, g, b, hs, _, hb⟩ := hS1.top
    refine ⟨_, pss_cons (ps_if (pt_cmpR op_isN (pe_fld (pe_fld (pv 0) rfl) rfl) pe_non (nomark _)) (pss_one (ps_raise rfl (takes_of rfl rfl rfl rfl) (pmk_own0 PySem.F.excBase_LookupError xN gN' kN (raises_own bN tN) (by rfl)))) pss_nil)
      (pss_one (ps_fld (pv 0) (pe_fld (pe_fld (pv 0) rfl) rfl) rfl)), ?_⟩
    refine ⟨_, rfl, D, CD, dxD, _, _, rfl, hD1, T.cl, T.nS, df_shelf sh, sh, CS, dx2, _, _, rfl, hs, TS.cl, TS.nB, sf_before _ _ _ _, rfl, _, rfl, ?_⟩
    rcases hb with ⟨rfl, rfl⟩ | ⟨b', rfl, hb'⟩
    · refine ifY (decide_eq_true rfl) ?_
      exact q1 rfl
    · refine ifN (decide_eq_false (by intro z; cases z)) ?_
      have hr0 : r ≠ [] := fun e => by
        subst e
        exact hb'
      refine ⟨_, rfl, D, CD, dxD, _, _, rfl, hD1, T.cl, T.nS, df_shelf sh, sh, CS, dx2, _, _, rfl, hs, TS.cl, TS.nB, sf_before _ _ _ _, _, rfl, D, CD, dxD, _, rfl, hD1, T.cl, T.nS, (by show 1 < 1000; decide), ?_⟩
      rw [df_put]
      have kp : ∀ b o, H b = some o → b ≠ D → (upd H D (.ins CD dxD (df b'))) b = some o := fun b o e hb => by
        rw [upd_ne hb]
        exact e
      have kf : KeepF CT CS H (upd H D (.ins CD dxD (df b'))) := KeepX.fix (D := D) (fun b o e h _ => kp b o e h) hD1 T.ne1 T.ne2
      exact q2 hr0 _ kp ⟨dxD, b', upd_same, hb'.keep kf⟩
end
end Ky
end

section
set_option Elab.async false
set_option linter.all false
set_option maxRecDepth 100000
set_option maxHeartbeats 2000000
namespace Ky
open PySem PySem.Spec PyProof.Rows L2
theorem slA_of {K : PySem.W.Frag} {a : Addr} {xs : List V} {lo hi : Option Int} {H : Hp} {Q : VK} (h : SqT K H a xs) (q : ∀ (p : Addr) (H' : Hp), Same H H' → SqT K H' p (cutV xs lo hi) → Q (.ref p) H') : rSlA K (.ref a) lo hi H Q := by
  refine ⟨a, xs, rfl, h, fun hw => ?_, fun _ p hp => q p _ (same_new hp) (SqT.of upd_same)⟩
  have e : cutV xs lo hi = xs := by
    unfold cutV
    rw [hw.1, hw.2, List.drop_zero, Nat.sub_zero, List.take_length]
  exact q a H (Same.refl _) (by rw [e]; exact h)
theorem gd_perm {ps qs : List (Str × Nat)} (h : ps.Perm qs) (c : Str) : gd ps c = gd qs c := by
  unfold gd
  rw [Bool.eq_iff_iff, List.all_eq_true, List.all_eq_true]
  exact ⟨fun e x hx => e x (h.mem_iff.mpr hx), fun e x hx => e x (h.mem_iff.mp hx)⟩
theorem chk_perm {ps qs : List (Str × Nat)} (h : ps.Perm qs) (cs : List Str) : chk ps cs = chk qs cs := by
  unfold chk
  congr 1
  funext c
  exact gd_perm h c
theorem paired_take {α β : Type} {F : α → β → Prop} : ∀ {l : List α} {m : List β}, Paired F l m → ∀ k, Paired F (l.take k) (m.take k)
  | _, _, _, 0 => by simpa using Paired.nil
  | _, _, .nil, k + 1 => by simpa using Paired.nil
  | _, _, .cons a b, k + 1 => .cons a (paired_take b k)
theorem paired_drop {α β : Type} {F : α → β → Prop} : ∀ {l : List α} {m : List β}, Paired F l m → ∀ k, Paired F (l.drop k) (m.drop k)
  | _, _, h, 0 => h
  | _, _, .nil, k + 1 => by simpa using Paired.nil
  | _, _, .cons a b, k + 1 => paired_drop b k
theorem paired_eq {α : Type} : ∀ {l m : List α}, Paired (fun x y => y = x) l m → m = l
  | _, _, .nil => rfl
  | _, _, .cons a b => by rw [a, paired_eq b]
/-- all but the desk stays -/
def KeepD (D : Addr) (H H' : Hp) : Prop := ∀ b o, H b = some o → b ≠ D → H' b = some o
section
variable {P : Program} {w : World} {K : PySem.W.Frag} {mg : Str → Option Value} {base : Heap} {f CT CS CD CB CU CI CN fS pN gN : Addr} {fd fdS fdN : FuncData}
theorem scDkInit : FnScope ["self"] ["self"] (defScope sDkInit) := ⟨rfl, rfl, rfl, by decide +kernel, rfl, by decide +kernel, by decide +kernel⟩
def spDkInit (CT CS CD : Addr) : Sp := fun vs H Q _ => ∃ D dx : Addr, vs = [.ref D] ∧ H D = some (.ins CD dx []) ∧ ∀ H', KeepD D H H' → DeskAt CT CS CD H' D [([], [])] → Q .non H'
theorem ok_dkInit (F : L2.Fun K "__init__" "Desk.__init__" sDkInit f fd) (T : DkT K mg CT CS CD) (TS : ShT K mg CS) (M : Mk K CS fS) (bS : L2.Binds K fdS ["self", "pairs", "pledges", "before"] []) (FS : FnOk P w K mg base L2.CX0 1 fS fdS ["self", "pairs", "pledges", "before"] (spShInit CS)) :
    FnOk P w K mg base L2.CX0 3 f fd ["self"] (spDkInit CT CS CD) := by
  refine F.ok scDkInit (fun vs H Q E h => ?_) (fun cdv A outer s H vs Q E hr h => ?_)
  · obtain ⟨D, dx, rfl, _⟩ := h
    rfl
  · obtain ⟨D, dxD, rfl, hD, q⟩ := h
    refine ⟨_, pss_one (ps_fld (pv 0) (pe_make M FS hr (by rfl) TS.mgS bS .nil pass0 (pa_cons (pe_tup pa_nil) (pa_cons (pe_tup pa_nil) (pa_cons pe_non pa_nil)))) rfl), ?_⟩
    refine ⟨Nat.zero_le _, fun p hp => ⟨Nat.zero_le _, fun g hg => fun s dx hs hdx hne => ?_⟩⟩
    have s1 : Same H (upd (upd H p (.tup [])) g (.tup [])) := (same_new hp).new hg
    refine ⟨s, dx, _, _, _, 0, rfl, upd_same, (fun b' e => nomatch e), .inl ⟨rfl, rfl⟩, fun H2 k h2 => ⟨rfl, ?_⟩⟩
    have s12 : Same (upd (upd H p (.tup [])) g (.tup [])) H2 := fun b o e => by
      have n1 := ne_of_none e hs
      have n2 := ne_of_none e hdx
      exact k b o n1 (by rw [upd_ne n1, upd_ne n2]; exact e)
    have hD2 := s12 _ _ (s1 _ _ hD)
    refine ⟨_, rfl, D, CD, dxD, [], rfl, hD2, T.cl, T.nS, (by show 0 < 1000; decide), ?_⟩
    have hp2 : H2 p = some (.tup []) := s12 _ _ (by rw [upd_ne (ne_of_none upd_same hg)]; exact upd_same)
    have hg2 : H2 g = some (.tup []) := s12 _ _ upd_same
    have nD : ∀ {b : Addr} {o : HO}, H2 b = some o → o ≠ .ins CD dxD [] → b ≠ D := fun {b o} e n z => by
      rw [z, hD2] at e
      exact n (Option.some.inj e).symm
    refine q _ (fun b o e hb => ?_) ⟨dxD, s, upd_same, dx, p, g, ?_, ⟨[], .nil, .nil, .inl ⟨rfl, ?_⟩⟩, [], ?_, .nil⟩
    · rw [upd_ne hb]
      exact s12 _ _ (s1 _ _ e)
    · rw [upd_ne (nD h2 (by intro z; cases z))]
      exact h2
    · rw [upd_ne (nD hp2 (by intro z; cases z))]
      exact hp2
    · rw [upd_ne (nD hg2 (by intro z; cases z))]
      exact hg2
/-! lift -/
theorem scLift : FnScope ["self", "index", "claims"] ["self", "index"] (defScope sLift) := ⟨rfl, rfl, rfl, by decide +kernel, rfl, by decide +kernel, by decide +kernel⟩
def spLift (CT CS CD : Addr) : Sp := fun vs H Q _ => ∃ (D : Addr) (k : Nat) (x : Snap) (r : List Snap), vs = [.ref D, .int k] ∧ DeskAt CT CS CD H D (x :: r) ∧ k < x.2.length ∧ x.2.length ≤ 1000 ∧
  ∀ H', KeepD D H H' → DeskAt CT CS CD H' D ((x.1, x.2.take k ++ x.2.drop (k + 1)) :: x :: r) → Q .non H'
theorem ok_lift (hme : Meth K CD "lift" f) (F : L2.Fun K "lift" "Desk.lift" sLift f fd) (T : DkT K mg CT CS CD) (TS : ShT K mg CS) (B : Bt mg) (M : Mk K CS fS) (bS : L2.Binds K fdS ["self", "pairs", "pledges", "before"] []) (FS : FnOk P w K mg base L2.CX0 1 fS fdS ["self", "pairs", "pledges", "before"] (spShInit CS))
    (C2 : C8.Cal P w K mg base 2 "is_between" spBetween []) : MtX (L2.CX P w) P w K mg base 3 CD "lift" (spLift CT CS CD) := by
  refine metX_mk T.cl hme F scLift (fun _ _ _ _ _ _ us hl => match us, hl with | [_, _], _ => rfl) (fun vs H Q E h => ?_) (fun cdv A outer s H vs Q E hr h => ?_)
  · obtain ⟨D, k, x, r, rfl, _⟩ := h
    rfl
  · obtain ⟨D, k, x, r, rfl, ⟨dxD, sh, hD, hSh⟩, hk, hlen, q⟩ := h
    obtain ⟨dx2, p, g, b, hs, ⟨hpairs, as, hG, hga⟩, _⟩ := hSh.top
    refine ⟨_, pss_cons (ps_set (i := 2) scLift.nd rfl (Or.inl rfl) (pe_fld (pe_fld (pv 0) rfl) rfl))
      (pss_cons (ps_if (pt_not (pt_val (C8.pe_c C2 hr (by decide) (by rfl) (pa_cons (pv 1) (pa_cons pe_int (pa_cons (pe_op op_sub (pe_callB call_len_seq (by rfl) B.len PySem.boot_len (pa_cons (pv 2) pa_nil)) pe_int) pa_nil)))))) (pss_one ps_never) pss_nil)
      (pss_one (ps_fld (pv 0) (pe_make M FS hr (by rfl) TS.mgS bS .nil pass0 (pa_cons (pe_fld (pe_fld (pv 0) rfl) rfl) (pa_cons
        (pe_tup (StX.pa_star (pe_slice sl_tupA (pv 2) po_none (po_some (pv 1))) (StX.pa_star (pe_slice sl_tupA (pv 2) (po_some (pe_op op_add (pv 1) pe_int)) po_none) pa_nil))) (pa_cons (pe_fld (pv 0) rfl) pa_nil)))) rfl))), ?_⟩
    have hal : as.length = x.2.length := paired_len hga
    refine ⟨_, rfl, D, CD, dxD, _, _, rfl, hD, T.cl, T.nS, df_shelf sh, sh, CS, dx2, _, _, rfl, hs, TS.cl, TS.nG, sf_pledges _ _ _ _, ?_⟩
    refine ⟨_, rfl, _, rfl, g, _, rfl, .inr (SqT.of hG), _, _, rfl, rfl, k, 0, _, rfl, by omega, ?_, true, rfl, iteF ?_⟩
    · rw [List.length_map, hal]
      omega
    refine ⟨_, rfl, D, CD, dxD, _, _, rfl, hD, T.cl, T.nS, df_shelf sh, sh, CS, dx2, _, _, rfl, hs, TS.cl, TS.nP, sf_pairs _ _ _ _, ?_⟩
    refine ⟨_, rfl, _, rfl, _, rfl, slA_of (SqT.of hG) fun p1 H1 s1 hp1 => ?_⟩
    refine ⟨p1, _, rfl, .inl hp1, _, rfl, _, rfl, _, _, rfl, rfl, _, rfl, ?_⟩
    unfold tNoPart
    refine slA_of (SqT.of (s1 _ _ hG)) fun p2 H2 s2 hp2 => ?_
    have e1 : cutV (as.map V.ref) none (some (k : Int)) = (as.take k).map V.ref := by rw [cutV_to, List.map_take]
    have e2 : cutV (as.map V.ref) (some ((k : Int) + 1)) none = (as.drop (k + 1)).map V.ref := by
      rw [show (k : Int) + 1 = ((k + 1 : Nat) : Int) from rfl, cutV_from, List.map_drop]
    rw [e1]
    rw [e2] at hp2
    refine ⟨p2, _, rfl, .inl hp2, ?_, fun p3 hp3 => ?_⟩
    · rw [List.append_nil, List.length_append, List.length_map, List.length_map, List.length_take, List.length_drop]
      exact le_line (by omega)
    have s3 : Same H (upd H2 p3 (.tup ((as.take k).map V.ref ++ ((as.drop (k + 1)).map V.ref ++ [])))) := (s1.trans s2).new hp3
    have hD3 := s3 _ _ hD
    have hSh3 := hSh.keep (KeepF.of (CT := CT) (CS := CS) s3)
    refine ⟨_, rfl, D, CD, dxD, _, _, rfl, hD3, T.cl, T.nS, df_shelf sh, fun sN dxN hsN hdxN hneN => ?_⟩
    obtain ⟨hdep, hshne⟩ := depth_push (d := 0) hSh3 hsN hdxN
    refine ⟨sN, dxN, _, _, _, _, rfl, upd_same, fun b' e => (by cases e; exact hshne), hdep, fun H4 k4 h4 => ⟨rfl, ?_⟩⟩
    have hx' : SnapAt CT (upd H2 p3 (.tup ((as.take k).map V.ref ++ ((as.drop (k + 1)).map V.ref ++ [])))) p p3 (x.1, x.2.take k ++ x.2.drop (k + 1)) := by
      obtain ⟨ps, h1, h2, h3⟩ := hpairs
      refine ⟨⟨ps, h1, h2, h3.keep (KeepF.of (CT := CT) (CS := CS) s3)⟩, as.take k ++ as.drop (k + 1), ?_, ?_⟩
      · rw [upd_same, List.append_nil, List.map_append]
      · have hga3 := paired_mono hga fun a c _ e => s3 _ _ e
        exact paired_app (paired_take hga3 k) (paired_drop hga3 (k + 1))
    obtain ⟨kp, hdk⟩ := desk_push hD3 hSh3 hsN hdxN T.ne1 T.ne2 k4 h4 hx'
    have s4 : Same (upd H2 p3 (.tup ((as.take k).map V.ref ++ ((as.drop (k + 1)).map V.ref ++ [])))) H4 := fun b o e => by
      have n1 := ne_of_none e hsN
      have n2 := ne_of_none e hdxN
      exact k4 b o n1 (by rw [upd_ne n1, upd_ne n2]; exact e)
    refine ⟨_, rfl, D, CD, dxD, _, rfl, s4 _ _ hD3, T.cl, T.nS, (by show 1 < 1000; decide), ?_⟩
    rw [df_put]
    exact q _ (fun b o e hb => kp b o (s3 _ _ e) hb) hdk
/-! drop -/
theorem scDrop : FnScope ["self", "name", "index", "claim", "rest", "pair"] ["self", "name"] (defScope sDrop) := ⟨rfl, rfl, rfl, by decide +kernel, rfl, by decide +kernel, by decide +kernel⟩
def spDrop (CT CS CD CU CI : Addr) : Sp := fun vs H Q E => ∃ (D : Addr) (z : Str) (x : Snap) (r : List Snap), vs = [.ref D, .str z] ∧ NameOk z ∧ DeskAt CT CS CD H D (x :: r) ∧ x.1.length ≤ 1000 ∧
  (z ∉ x.1.map (·.1) → ∀ (H' : Hp) (d : Addr), Same H H' → H' d = some (.xd [(("given" : Str), .str z)]) → E (.ref CU) (some d) H') ∧
  (z ∈ x.1.map (·.1) → z ∈ x.2 → ∀ (H' : Hp) (d : Addr) (i : Int), Same H H' → H' d = some (.xd [(("index" : Str), .int i)]) → E (.ref CI) (some d) H') ∧
  (z ∈ x.1.map (·.1) → z ∉ x.2 → ∀ H', KeepD D H H' → DeskAt CT CS CD H' D ((x.1.filter fun ni => decide (ni.1 ≠ z), x.2) :: x :: r) → Q .non H')
theorem ok_drop {fI : Addr} {fdI : FuncData} (hme : Meth K CD "drop" f) (F : L2.Fun K "drop" "Desk.drop" sDrop f fd) (T : DkT K mg CT CS CD) (TS : ShT K mg CS) (B : Bt mg) (M : Mk K CS fS) (bS : L2.Binds K fdS ["self", "pairs", "pledges", "before"] []) (FS : FnOk P w K mg base L2.CX0 1 fS fdS ["self", "pairs", "pledges", "before"] (spShInit CS))
    (MK : MtX (L2.CX P w) P w K mg base 4 CD "check_known" (spKnown CT CS CD CU)) (CNm : C8.Cal P w K mg base 1 "names_in" spNamesIn [])
    (XI : ExI K mg "InUse" CI fI bmLE nLE) (FI : L2.Fun K "__init__" "InUse.__init__" sIuInit fI fdI) (nX : PySem.W.findIn K (.ref CI) "index" = some none) : MtX (L2.CX P w) P w K mg base 5 CD "drop" (spDrop CT CS CD CU CI) := by
  refine metX_mk T.cl hme F scDrop (fun _ _ _ _ _ _ us hl => match us, hl with | [_, _], _ => rfl) (fun vs H Q E h => ?_) (fun cdv A outer s H vs Q E hr h => ?_)
  · obtain ⟨D, z, x, r, rfl, _⟩ := h
    rfl
  · obtain ⟨D, z, x, r, rfl, hz, hDk, hlen, qU, qI, q⟩ := h
    have bI : L2.Binds K fdI ["self", "index"] [] := FI.binds fun _ _ _ _ _ _ us hl => match us, hl with | [_, _], _ => rfl
    obtain ⟨dxD, sh, hD, hSh⟩ := id hDk
    refine ⟨_, pss_cons (ps_expr (pe_mX MK hr (by decide) (pv 0) (passes_call (takes_of rfl rfl rfl rfl) (fun _ _ _ _ h => h)) (pa_cons (pv 1) pa_nil)))
      (pss_cons (ps_for (passes_of rfl) rfl (pi_enumT (by rfl) B.enum (pa_cons (pe_fld (pe_fld (pv 0) rfl) rfl) pa_nil)) (pg_tup rfl (pgs_cons (pg_name (i := 2) scDrop.nd rfl (.inl rfl)) (pgs_cons (pg_name (i := 3) scDrop.nd rfl (.inl rfl)) pgs_nil)))
        (pss_one (ps_if (pt_cmpR op_in_seq (pv 1) (C8.pe_c CNm hr (by decide) (by rfl) (pa_cons (pv 3) pa_nil)) (by rfl))
          (pss_one (ps_raise rfl (takes_of rfl rfl rfl rfl) (pmk_oexB PySem.F.excBase_LookupError XI.ob XI.iC XI.tI (ok_iuInit FI XI.ob nX) (hr.mono (by decide)) bI .nil pass0 (by rfl) XI.mg (pa_cons (pv 2) pa_nil)))) pss_nil)))
      (pss_cons (ps_set (i := 4) scDrop.nd rfl (Or.inl rfl) (pe_callTy call_tupleF (by rfl) B.tuple boot_tuple (pa_cons
        (pe_lc (te := tVar 5) (tt := tTest (tOp rNe (tOp (rIxT K) (tVar 5) (tC (.int 0))) (tVar 1))) (own := [("pair", 5)]) (g := gName 5) rfl scDrop.nd (pi_tup (pe_fld (pe_fld (pv 0) rfl) rfl)) (blkOk_by (N := ["self", "name", "index", "claim", "rest", "pair"]) (sc := defScope sDrop) (by decide +kernel)) (fun _ _ _ _ _ => pg_name (i := 5) scDrop.nd rfl (Or.inl rfl))
          (fun _ _ _ _ _ => pts_one (pt_cmpR op_ne (pe_ix ix_tup (pv 5) pe_int (fun _ _ => rfl)) (pv 1) (nomark _))) (fun _ _ _ _ _ => pv 5)) pa_nil)))
      (pss_one (ps_fld (pv 0) (pe_make M FS (hr.mono (by decide)) (by rfl) TS.mgS bS .nil pass0 (pa_cons (pv 4) (pa_cons (pe_fld (pe_fld (pv 0) rfl) rfl) (pa_cons (pe_fld (pv 0) rfl) pa_nil)))) rfl)))), ?_⟩
    refine ⟨_, rfl, D, dxD, _, rfl, hD, df_no _ (by decide +kernel), _, rfl, D, z, x, r, rfl, hz, hDk, hlen, fun hm H1 s1 => ?_, qU⟩
    have kf1 : KeepF CT CS H H1 := KeepF.of s1
    have hD1 := s1 _ _ hD
    have hSh1 := hSh.keep kf1
    obtain ⟨dx2, p, g, b, hs, ⟨⟨ps, hperm, hsort, hX⟩, as, hG, hga⟩, _⟩ := hSh1.top
    refine ⟨_, rfl, D, CD, dxD, _, _, rfl, hD1, T.cl, T.nS, df_shelf sh, sh, CS, dx2, _, _, rfl, hs, TS.cl, TS.nG, sf_pledges _ _ _ _, g, _, rfl, SqT.of hG, ?_⟩
    refine for_enumT (K := K) (a := g) (xs := as.map V.ref) (fun i σ H' => Same H1 H' ∧ (∃ v2 v3, σ = [some (.ref D), some (.str z), v2, v3, none, none]) ∧ z ∉ x.2.take i) ⟨Same.refl _, ⟨none, none, rfl⟩, by simp⟩ (fun i σ H' _ pv => SqT.of (pv.1 _ _ hG)) ?_ ?_
    · rintro i y Tn σ H2 hx ⟨s2, ⟨v2, v3, rfl⟩, hno⟩ hT
      obtain ⟨a, ha, rfl⟩ : ∃ t, as[i]? = some t ∧ V.ref t = y := by
        rw [List.getElem?_map] at hx
        cases e : as[i]? with
        | none => rw [e] at hx; cases hx
        | some z => rw [e] at hx; exact ⟨z, rfl, Option.some.inj hx⟩
      obtain ⟨c, hc, hca⟩ := paired_get2 hga ha
      have s3 : Same H1 (upd H2 Tn (.tup [.int (i : Nat), .ref a])) := s2.new hT
      refine ⟨Tn, _, rfl, SqT.of upd_same, rfl, _, _, rfl, _, _, rfl, rfl, ?_⟩
      refine ⟨_, rfl, _, rfl, a, c, rfl, s3 _ _ hca, fun H3 pn s4 hpn => ?_⟩
      refine ⟨pn, _, rfl, .inr (SqT.of hpn), rfl, rfl, _, rfl, ?_⟩
      have e0 : inV (.str z) [V.str c] = decide (z = c) := by
        have := inV_names (z := z) (ps := [(c, 0)])
        simpa [namesV] using this
      by_cases hzc : z = c
      · refine ifY (by show inV (.str z) [V.str c] = true; rw [e0]; exact decide_eq_true hzc) ?_
        refine ⟨_, rfl, (by show 1 ≤ 1000; decide), fun ea hea => ?_⟩
        refine ⟨ea, _, rfl, upd_same, fun dx hdx hne => ⟨rfl, dx, [(("index" : Str), .int (i : Nat))], upd_same, ?_, ?_, ?_⟩⟩
        · rw [upd_ne hne]
          exact upd_same
        · rw [upd_ne hne] at hdx
          exact hdx
        · exact qI hm (by rw [hzc]; exact List.mem_of_getElem? hc) _ dx _ (((s1.trans s3).trans s4).trans (raised_same hea hdx hne)) upd_same
      · refine ifN (by show inV (.str z) [V.str c] = false; rw [e0]; exact decide_eq_false hzc) ?_
        refine ⟨s3.trans s4, ⟨_, _, rfl⟩, fun h => ?_⟩
        rw [take_snoc hc] at h
        rcases List.mem_append.mp h with h | h
        · exact hno h
        · exact hzc (List.mem_singleton.mp h)
    · rintro σ H2 ⟨s2, ⟨v2, v3, rfl⟩, hno⟩
      have hno : z ∉ x.2 := by
        rw [List.length_map, paired_len hga, List.take_length] at hno
        exact hno
      have hD2 := s2 _ _ hD1
      have hs2 := s2 _ _ hs
      have kf2 : KeepF CT CS H1 H2 := KeepF.of s2
      obtain ⟨qs, hq, hpp⟩ := (hX.keep kf2).seq (K := K)
      refine ⟨_, rfl, D, CD, dxD, _, _, rfl, hD2, T.cl, T.nS, df_shelf sh, sh, CS, dx2, _, _, rfl, hs2, TS.cl, TS.nP, sf_pairs _ _ _ _, p, rfl, ⟨_, hq⟩, fun D2 hD2' => ?_⟩
      refine lcF (walk_tup (K := K) (a := p) (xs := qs.map V.ref)) (fun x => decide (nmOf H2 x ≠ z)) (fun x y _ => y = x) (fun _ _ _ _ r _ => r) (fun H3 s3 => s3.tup hq) hD2' ?_ (fun i y H3 Ny Nn hx s3 _ hy hn => ?_) (fun H3 acc s3 hacc pr => ?_)
      · rw [List.length_map, paired_len hpp, hperm.length_eq]
        omega
      · obtain ⟨q0, hq0, rfl⟩ : ∃ t, t ∈ qs ∧ V.ref t = y := List.mem_map.mp (List.mem_of_getElem? hx)
        obtain ⟨ni, _, t, h1, _⟩ := paired_left hpp hq0
        refine ⟨rfl, _, rfl, q0, _, 0, _, rfl, rfl, SqT.of (s3 _ _ h1), atI_of (by decide) rfl, _, rfl, rfl, _, rfl, ?_⟩
        have en : nmOf H2 (.ref q0) = ni.1 := nmOf_eq h1
        by_cases hz2 : ni.1 = z
        · refine ifN (by rw [decide_eq_true (by rw [hz2])]; rfl) ?_
          exact hn (by rw [en]; simp [hz2]) _ (Same.refl _)
        · refine ifY (by rw [decide_eq_false (fun e => hz2 (V.str.inj e))]; rfl) ?_
          exact ⟨_, rfl, hy (by rw [en]; simp [hz2]) _ _ (Same.refl _) rfl⟩
      · have eacc : acc = (qs.map V.ref).filter (fun x => decide (nmOf H2 x ≠ z)) := paired_eq pr
        obtain ⟨qs', eq', hpp'⟩ := filt_pairs (z := z) hpp
        rw [eq'] at eacc
        subst eacc
        refine ⟨D2, _, rfl, SqL.of hacc, fun pT oT hpT hoT => ?_⟩
        have s4 : Same H2 (upd H3 pT (.frz oT (.tup (qs'.map V.ref)))) := s3.new hpT
        have s5 : Same H (upd H3 pT (.frz oT (.tup (qs'.map V.ref)))) := (s1.trans s2).trans s4
        have kf5 : KeepF CT CS H1 (upd H3 pT (.frz oT (.tup (qs'.map V.ref)))) := KeepF.of (s2.trans s4)
        have hD5 := s5 _ _ hD
        have hSh5 := hSh1.keep kf5
        refine ⟨_, rfl, _, rfl, D, CD, dxD, _, _, rfl, hD5, T.cl, T.nS, df_shelf sh, sh, CS, dx2, _, _, rfl, s4 _ _ hs2, TS.cl, TS.nG, sf_pledges _ _ _ _, _, rfl, D, CD, dxD, _, _, rfl, hD5, T.cl, T.nS, df_shelf sh, fun sN dxN hsN hdxN hneN => ?_⟩
        obtain ⟨hdep, hshne⟩ := depth_push (d := 0) hSh5 hsN hdxN
        refine ⟨sN, dxN, _, _, _, _, rfl, upd_same, fun b' e => (by cases e; exact hshne), hdep, fun H6 k6 h6 => ⟨rfl, ?_⟩⟩
        have hx' : SnapAt CT (upd H3 pT (.frz oT (.tup (qs'.map V.ref)))) pT g (x.1.filter (fun ni => decide (ni.1 ≠ z)), x.2) :=
          ⟨⟨ps.filter (fun ni => decide (ni.1 ≠ z)), hperm.filter _, sorted_filter hsort, .inr ⟨oT, qs', upd_same, hoT, paired_mono hpp' fun _ _ _ e => e.same s4⟩⟩, as, (s2.trans s4) _ _ hG, paired_mono hga fun a c _ e => (s2.trans s4) _ _ e⟩
        obtain ⟨kp, hdk⟩ := desk_push hD5 hSh5 hsN hdxN T.ne1 T.ne2 k6 h6 hx'
        have s6 : Same (upd H3 pT (.frz oT (.tup (qs'.map V.ref)))) H6 := fun b o e => by
          have n1 := ne_of_none e hsN
          have n2 := ne_of_none e hdxN
          exact k6 b o n1 (by rw [upd_ne n1, upd_ne n2]; exact e)
        refine ⟨_, rfl, D, CD, dxD, _, rfl, s6 _ _ hD5, T.cl, T.nS, (by show 1 < 1000; decide), ?_⟩
        rw [df_put]
        exact q hm hno _ (fun b o e hb => kp b o (s5 _ _ e) hb) hdk
end
end Ky
end

section
set_option Elab.async false
set_option linter.all false
set_option maxRecDepth 100000
set_option maxHeartbeats 2000000
namespace Ky
open PySem PySem.Spec PyProof.Rows L2 LamX
open PySem.W (dataLe dataLt)
/-- a stand that the law may come to -/
structure Wf (x : Snap) : Prop where
  nd : (x.1.map (·.1)).Nodup
  i8 : ∀ ni ∈ x.1, ni.2 < 8
  nm : ∀ ni ∈ x.1, NameOk ni.1
  cl : ∀ c ∈ x.2, c ∈ x.1.map (·.1)
theorem mem_names {ps : List (Str × Nat)} {c : Str} (h : c ∈ ps.map (·.1)) : ∃ i, (c, i) ∈ ps := by
  obtain ⟨ni, h1, h2⟩ := List.mem_map.mp h
  exact ⟨ni.2, by rw [← h2]; exact h1⟩
theorem paired_perm {α β : Type} {F : α → β → Prop} {l l' : List α} (p : l'.Perm l) : ∀ {m : List β}, Paired F l m → ∃ m', Paired F l' m' ∧ m'.Perm m := by
  induction p with
  | nil => exact fun h => ⟨_, h, .refl _⟩
  | @cons x l1 l2 _ ih =>
    intro m h
    cases h with
    | cons a b =>
      obtain ⟨m', h1, h2⟩ := ih b
      exact ⟨_ :: m', .cons a h1, h2.cons _⟩
  | swap x y l =>
    intro m h
    cases h with
    | cons a b =>
      cases b with
      | cons c d => exact ⟨_, .cons c (.cons a d), .swap _ _ _⟩
  | trans _ _ ih1 ih2 =>
    intro m h
    obtain ⟨m1, h1, h2⟩ := ih2 h
    obtain ⟨m2, h3, h4⟩ := ih1 h1
    exact ⟨m2, h3, h4.trans h2⟩
theorem paired_pw {α β : Type} {F : α → β → Prop} {R : α → α → Prop} {S : β → β → Prop} (hRS : ∀ a b c d, F a c → F b d → R a b → S c d) : ∀ {l : List α} {m : List β}, Paired F l m → l.Pairwise R → m.Pairwise S
  | _, _, .nil, _ => .nil
  | _, _, .cons a b, h => by
    obtain ⟨h1, h2⟩ := List.pairwise_cons.mp h
    refine List.pairwise_cons.mpr ⟨fun c hc => ?_, paired_pw hRS b h2⟩
    obtain ⟨a', h3, h4⟩ := paired_left (paired_swap b) hc
    exact hRS _ _ _ _ a h4 (h1 a' h3)
section
variable {P : Program} {w : World} {K : PySem.W.Frag} {mg : Str → Option Value} {base : Heap} {f CT CS CD CB CU CI CN fS pN gN : Addr} {fd fdS fdN : FuncData}
theorem scClaim : FnScope ["self", "claim", "name", "claims"] ["self", "claim"] (defScope sClaim) := ⟨rfl, rfl, rfl, by decide +kernel, rfl, by decide +kernel, by decide +kernel⟩
def spClaim (CT CS CD CU CB : Addr) : Sp := fun vs H Q E => ∃ (D c : Addr) (z : Str) (x : Snap) (r : List Snap), vs = [.ref D, .ref c] ∧ ClaimAt H c z ∧ NameOk z ∧ DeskAt CT CS CD H D (x :: r) ∧ Wf x ∧ x.1.length ≤ 900 ∧ x.2.length ≤ 900 ∧
  (z ∉ x.1.map (·.1) → ∀ (H' : Hp) (d : Addr), Same H H' → H' d = some (.xd [(("given" : Str), .str z)]) → E (.ref CU) (some d) H') ∧
  (z ∈ x.1.map (·.1) → chk x.1 (x.2 ++ [z]) = false → ∀ (H' : Hp) (d : Addr) (i s : V), BkV H' i s → Same H H' → H' d = some (.xd [(("shown" : Str), s), (("index" : Str), i)]) → E (.ref CB) (some d) H') ∧
  (z ∈ x.1.map (·.1) → chk x.1 (x.2 ++ [z]) = true → ∀ H', KeepD D H H' → DeskAt CT CS CD H' D ((x.1, x.2 ++ [z]) :: x :: r) → Q .non H')
theorem ok_claim (hme : Meth K CD "claim" f) (F : L2.Fun K "claim" "Desk.claim" sClaim f fd) (T : DkT K mg CT CS CD) (TS : ShT K mg CS) (M : Mk K CS fS) (bS : L2.Binds K fdS ["self", "pairs", "pledges", "before"] []) (FS : FnOk P w K mg base L2.CX0 1 fS fdS ["self", "pairs", "pledges", "before"] (spShInit CS))
    (MK : MtX (L2.CX P w) P w K mg base 4 CD "check_known" (spKnown CT CS CD CU)) (MC : MtX (L2.CX P w) P w K mg base 11 CD "check_claims" (spChk CT CB)) (CNm : C8.Cal P w K mg base 1 "names_in" spNamesIn []) (CIs : C8.Cal P w K mg base 1 "is_claim" spIsClaim []) : MtX (L2.CX P w) P w K mg base 12 CD "claim" (spClaim CT CS CD CU CB) := by
  refine metX_mk T.cl hme F scClaim (fun _ _ _ _ _ _ us hl => match us, hl with | [_, _], _ => rfl) (fun vs H Q E h => ?_) (fun cdv A outer s H vs Q E hr h => ?_)
  · obtain ⟨D, c, z, x, r, rfl, _⟩ := h
    rfl
  · obtain ⟨D, c, z, x, r, rfl, hc, hz, hDk, hW, hl1, hl2, qU, qB, q⟩ := h
    obtain ⟨dxD, sh, hD, hSh⟩ := id hDk
    refine ⟨_, pss_cons (ps_if (pt_not (pt_val (C8.pe_c CIs hr (by decide) (by rfl) (pa_cons (pv 1) pa_nil)))) (pss_one ps_never) pss_nil)
      (pss_cons (ps_for (passes_of rfl) rfl (pi_tup (C8.pe_c CNm hr (by decide) (by rfl) (pa_cons (pv 1) pa_nil))) (pg_name (i := 2) scClaim.nd rfl (.inl rfl))
        (pss_one (ps_expr (pe_mX MK hr (by decide) (pv 0) (passes_call (takes_of rfl rfl rfl rfl) (fun _ _ _ _ h => h)) (pa_cons (pv 2) pa_nil)))))
      (pss_cons (ps_set (i := 3) scClaim.nd rfl (Or.inl rfl) (pe_tup (StX.pa_star (pe_fld (pe_fld (pv 0) rfl) rfl) (pa_cons (pv 1) pa_nil))))
      (pss_cons (ps_expr (pe_mX MC hr (by decide) (pv 0) (passes_call (takes_of rfl rfl rfl rfl) (fun _ _ _ _ h => h)) (pa_cons (pe_fld (pe_fld (pv 0) rfl) rfl) (pa_cons (pv 3) pa_nil))))
      (pss_one (ps_fld (pv 0) (pe_make M FS (hr.mono (by decide)) (by rfl) TS.mgS bS .nil pass0 (pa_cons (pe_fld (pe_fld (pv 0) rfl) rfl) (pa_cons (pv 3) (pa_cons (pe_fld (pv 0) rfl) pa_nil)))) rfl))))), ?_⟩
    refine ⟨_, rfl, c, z, rfl, hc, hz.str, fun H1 s1 => ⟨true, rfl, iteF ?_⟩⟩
    refine ⟨_, rfl, c, z, rfl, s1 _ _ hc, fun H2 pn s2 hpn => ⟨pn, rfl, ⟨_, SqT.of hpn⟩, ?_⟩⟩
    have s12 := s1.trans s2
    refine for_tup (K := K) (a := pn) (xs := [.str z]) (fun i σ H' => Same H2 H' ∧ (∃ v2, σ = [some (.ref D), some (.ref c), v2, none]) ∧ (i ≠ 0 → z ∈ x.1.map (·.1))) ⟨Same.refl _, ⟨none, rfl⟩, fun h => absurd rfl h⟩ (fun i σ H' _ pv => SqT.of (pv.1 _ _ hpn)) ?_ ?_
    · rintro i y σ H3 hx ⟨s3, ⟨v2, rfl⟩, _⟩
      obtain rfl : V.str z = y := by
        have := List.mem_of_getElem? hx
        exact (List.mem_singleton.mp this).symm
      have s13 := s12.trans s3
      refine ⟨_, rfl, D, dxD, _, rfl, s13 _ _ hD, df_no _ (by decide +kernel), _, rfl, D, z, x, r, rfl, hz, ⟨dxD, sh, s13 _ _ hD, hSh.keep (KeepF.of s13)⟩, by omega, fun hm H4 s4 => ?_, fun hm H4 d s4 hd => ?_⟩
      · exact ⟨s3.trans s4, ⟨_, rfl⟩, fun _ => hm⟩
      · exact qU hm H4 d (s13.trans s4) hd
    · rintro σ H3 ⟨s3, ⟨v2, rfl⟩, hm⟩
      have hm := hm (by show 1 ≠ 0; decide)
      have s13 := s12.trans s3
      have kf : KeepF CT CS H H3 := KeepF.of s13
      have hD3 := s13 _ _ hD
      have hSh3 := hSh.keep kf
      obtain ⟨dx2, p, g, b, hs, ⟨⟨ps, hperm, hsort, hX⟩, as, hG, hga⟩, _⟩ := hSh3.top
      refine ⟨_, rfl, D, CD, dxD, _, _, rfl, hD3, T.cl, T.nS, df_shelf sh, sh, CS, dx2, _, _, rfl, hs, TS.cl, TS.nG, sf_pledges _ _ _ _, g, _, rfl, .inl (SqT.of hG), _, rfl, ?_, fun p4 hp4 => ?_⟩
      · rw [List.length_append, List.length_map, paired_len hga]
        exact le_line (by show x.2.length + 1 ≤ 100000; omega)
      have s4 : Same H3 (upd H3 p4 (.tup (as.map V.ref ++ [.ref c]))) := same_new hp4
      have s14 := s13.trans s4
      have kf4 : KeepF CT CS H3 (upd H3 p4 (.tup (as.map V.ref ++ [.ref c]))) := KeepF.of s4
      have hD4 := s14 _ _ hD
      have hs4 := s4 _ _ hs
      obtain ⟨i0, hi0⟩ := mem_names hm
      have hF : PairsF CT (upd H3 p4 (.tup (as.map V.ref ++ [.ref c]))) p ps := (pairsF_of hX (hperm.mem_iff.mpr hi0)).same s4
      have hC : ClaimsAt (upd H3 p4 (.tup (as.map V.ref ++ [.ref c]))) p4 (x.2 ++ [z]) := ⟨as ++ [c], by rw [upd_same, List.map_append]; rfl, paired_app (paired_mono hga fun a y _ e => s4 _ _ e) (.cons (s14 _ _ hc) .nil)⟩
      refine ⟨_, rfl, D, dxD, _, rfl, hD4, df_no _ (by decide +kernel), ?_⟩
      refine ⟨_, rfl, D, CD, dxD, _, _, rfl, hD4, T.cl, T.nS, df_shelf sh, sh, CS, dx2, _, _, rfl, hs4, TS.cl, TS.nP, sf_pairs _ _ _ _, _, rfl, ?_⟩
      refine ⟨.ref D, p, p4, ps, x.2 ++ [z], rfl, hF, (hperm.map (fun ni : Str × Nat => ni.1)).nodup_iff.mpr hW.nd, by rw [hperm.length_eq]; omega, fun ni hni => hW.i8 ni (hperm.mem_iff.mp hni), hC, fun c' hc' => ?_, fun hok H5 s5 => ?_, fun hbad H5 d iv sv bk s5 hd => ?_⟩
      · have hcm : c' ∈ x.1.map (·.1) := by
          rcases List.mem_append.mp hc' with h | h
          · exact hW.cl c' h
          · rw [List.mem_singleton.mp h]
            exact hm
        obtain ⟨j, hj⟩ := mem_names hcm
        exact ⟨j, hperm.mem_iff.mpr hj⟩
      · rw [chk_perm hperm] at hok
        have s15 := s14.trans s5
        have hD5 := s15 _ _ hD
        have hSh5 := hSh.keep (KeepF.of (CT := CT) (CS := CS) s15)
        refine ⟨_, rfl, D, CD, dxD, _, _, rfl, hD5, T.cl, T.nS, df_shelf sh, sh, CS, dx2, _, _, rfl, s5 _ _ hs4, TS.cl, TS.nP, sf_pairs _ _ _ _, _, rfl, _, rfl, D, CD, dxD, _, _, rfl, hD5, T.cl, T.nS, df_shelf sh, fun sN dxN hsN hdxN hneN => ?_⟩
        obtain ⟨hdep, hshne⟩ := depth_push (d := 0) hSh5 hsN hdxN
        refine ⟨sN, dxN, _, _, _, _, rfl, upd_same, fun b' e => (by cases e; exact hshne), hdep, fun H6 k6 h6 => ⟨rfl, ?_⟩⟩
        have hx' : SnapAt CT H5 p p4 (x.1, x.2 ++ [z]) := ⟨⟨ps, hperm, hsort, .inr (hF.same s5)⟩, hC.same s5⟩
        obtain ⟨kp, hdk⟩ := desk_push hD5 hSh5 hsN hdxN T.ne1 T.ne2 k6 h6 hx'
        have s6 : Same H5 H6 := fun b o e => by
          have n1 := ne_of_none e hsN
          have n2 := ne_of_none e hdxN
          exact k6 b o n1 (by rw [upd_ne n1, upd_ne n2]; exact e)
        refine ⟨_, rfl, D, CD, dxD, _, rfl, s6 _ _ hD5, T.cl, T.nS, (by show 1 < 1000; decide), ?_⟩
        rw [df_put]
        exact q hm hok _ (fun b o e hb => kp b o (s15 _ _ e) hb) hdk
      · rw [chk_perm hperm] at hbad
        exact qB hm hbad H5 d iv sv bk (s14.trans s5) hd
end
end Ky
end

section
set_option Elab.async false
set_option linter.all false
set_option maxRecDepth 100000
set_option maxHeartbeats 2000000
namespace Ky
open PySem PySem.Spec PyProof.Rows L2 LamX
open PySem.W (dataLe dataLt)
/-! a def whose code object is known by its address -/
structure FunC (K : PySem.W.Frag) (x qual : Str) (st : Stmt) (f : Addr) (fd : FuncData) (c : Addr) : Prop where
  ex : ∃ (oc : Value) (od : Option Addr) (kV doc pm : Value) (an : Option Addr) (ct : Value) (osl : Array (Option Value)),
    fd = PySem.W.fnOf x qual (defArgs st) (defBody st) (defScope st) .none kV doc pm an (.ref c) ct ∧ K.lookup f = some ⟨oc, od, .func fd, osl⟩ ∧ PySem.W.codeIn K (.ref c) qual = true
  kp : PySem.W.keepIn K (.ref f) = true
theorem FunC.fn {K : PySem.W.Frag} {x qual : Str} {st : Stmt} {f : Addr} {fd : FuncData} {c : Addr} (F : FunC K x qual st f fd c) : L2.Fun K x qual st f fd := by
  obtain ⟨oc, od, kV, doc, pm, an, ct, osl, h1, h2, h3⟩ := F.ex
  exact ⟨⟨oc, od, kV, doc, pm, an, .ref c, ct, osl, h1, h2, h3⟩, F.kp⟩
theorem FunC.okX {P : Program} {w : World} {K : PySem.W.Frag} {mg : Str → Option Value} {base : Heap} {x qual : Str} {st : Stmt} {f : Addr} {fd : FuncData} {c : Addr} {N ps : List Str} {k : Nat} {sp : Sp} (F : FunC K x qual st f fd c) (S : FnScope N ps (defScope st)) (len : ∀ vs H Q E, sp vs H Q E → vs.length = ps.length)
    (hbody : ∀ (A : Around) (outer : List Env) (s : Shared) (H : Hp) (vs : List V) (Q : VK) (E : XK), Room k (A.deeper (envOfC qual (defScope st) s.heap.objs.size f (.ref c))) → sp vs H Q E →
      ∃ t, PSs (cxOf (L2.CX P w) P w K mg base N qual (defScope st) f (.ref c) A outer s H E) (defBody st) t ∧ t { nx := fun _ H' => Q .non H', rt := Q } (start N vs) H) : FnOk P w K mg base (L2.CX P w) (k + 1) f fd ps sp := by
  obtain ⟨oc, od, kV, doc, pm, an, ct, osl, rfl, lk, hcd⟩ := F.ex
  exact fn_of lk hcd S len fun A outer s H vs Q E hr hsp => hbody A outer s H vs Q E hr hsp
theorem FunC.ok {P : Program} {w : World} {K : PySem.W.Frag} {mg : Str → Option Value} {base : Heap} {x qual : Str} {st : Stmt} {f : Addr} {fd : FuncData} {c : Addr} {N ps : List Str} {k : Nat} {sp : Sp} (F : FunC K x qual st f fd c) (S : FnScope N ps (defScope st)) (len : ∀ vs H Q E, sp vs H Q E → vs.length = ps.length)
    (hbody : ∀ (A : Around) (outer : List Env) (s : Shared) (H : Hp) (vs : List V) (Q : VK) (E : XK), Room k (A.deeper (envOfC qual (defScope st) s.heap.objs.size f (.ref c))) → sp vs H Q E →
      ∃ t, PSs (cxOf L2.CX0 P w K mg base N qual (defScope st) f (.ref c) A outer s H E).nox (defBody st) t ∧ t { nx := fun _ H' => Q .non H', rt := Q } (start N vs) H) : FnOk P w K mg base L2.CX0 (k + 1) f fd ps sp := by
  obtain ⟨oc, od, kV, doc, pm, an, ct, osl, rfl, lk, hcd⟩ := F.ex
  refine fn_of lk hcd S len fun A outer s H vs Q E hr hsp => ?_
  obtain ⟨t, h, q⟩ := hbody A outer s H vs Q E hr hsp
  exact ⟨t, h.nox, q⟩
/-- the name of a def's lambda -/
abbrev lamQ (q : Str) : Str := (q ++ ".<locals>.") ++ "<lambda>"
theorem noKind {k : NameKind} {ns : List (Str × NameKind)} (h : (ns.all fun y => !decide (y.2 = k)) = true) : ∀ y ∈ ns, y.2 ≠ k := fun y hy e => by
  have := List.all_eq_true.mp h y hy
  simp [e] at this
/-- what is added to the heap leaves the tables -/
theorem tabs_same {T : List (Addr × Str)} {H H' : Hp} (t : Tabs T H) (s : Same H H') : Tabs T H' := t.ext s
/-- all but the desk kept: what becomes of the tables -/
theorem tabs_upd {T : List (Addr × Str)} {H : Hp} {D C dx : Addr} {fs gs : List (Str × V)} (t : Tabs T H) (hD : H D = some (.ins C dx fs)) : Tabs T (upd H D (.ins C dx gs)) := fun p hp => by
  obtain ⟨ps, h1, h2, h3⟩ := t p hp
  have n1 : p.1 ≠ D := fun z => by
    rw [z, hD] at h1
    cases h1
  refine ⟨ps, by rw [upd_ne n1]; exact h1, h2, fun pos cv h => ?_⟩
  obtain ⟨c, e1, e2⟩ := h3 pos cv h
  have n2 : c ≠ D := fun z => by
    rw [z, hD] at e2
    cases e2
  exact ⟨c, e1, by rw [upd_ne n2]; exact e2⟩
theorem paired_refs' {α : Type} {F : Addr → α → Prop} : ∀ {rs : List Addr} {xs : List α}, Paired F rs xs → Paired (fun (v : V) (x : α) => ∃ q, v = .ref q ∧ F q x) (rs.map V.ref) xs
  | _, _, .nil => .nil
  | _, _, .cons a b => .cons ⟨_, rfl, a⟩ (paired_refs' b)
section
variable {P : Program} {w : World} {K : PySem.W.Frag} {mg : Str → Option Value} {base : Heap} {f CT CS CD CB CU CI CN fS pN gN : Addr} {fd fdS fdN : FuncData}
theorem scPut : FnScope ["self", "name", "table", "rest", "pairs", "pair"] ["self", "name", "table"] (defScope sPut) := ⟨rfl, rfl, rfl, by decide +kernel, rfl, by decide +kernel, by decide +kernel⟩
/-- what put makes of the pairs -/
def putM (m : List (Str × Nat)) (z : Str) (i : Nat) : List (Str × Nat) := m.filter (fun ni => decide (ni.1 ≠ z)) ++ [(z, i)]
theorem putM_nodup {m : List (Str × Nat)} {z : Str} {i : Nat} (h : (m.map (·.1)).Nodup) : ((putM m z i).map (·.1)).Nodup := by
  unfold putM
  rw [List.map_append, List.nodup_append]
  refine ⟨List.Nodup.sublist (List.Sublist.map _ List.filter_sublist) h, by simp, fun a ha b hb => ?_⟩
  obtain ⟨ni, h1, rfl⟩ := List.mem_map.mp ha
  have h2 := (List.mem_filter.mp h1).2
  have e : b = z := by simpa using hb
  rw [e]
  simpa using h2
def spPut (T : List (Addr × Str)) (CT CS CD CB : Addr) : Sp := fun vs H Q E => ∃ (D t : Addr) (z : Str) (i : Nat) (x : Snap) (r : List Snap), vs = [.ref D, .str z, .ref t] ∧ NameOk z ∧ i < 8 ∧ TabAt CT H t (shR i) ∧ DeskAt CT CS CD H D (x :: r) ∧ Wf x ∧ x.1.length ≤ 900 ∧ x.2.length ≤ 900 ∧ Tabs T H ∧
  (chk (putM x.1 z i) x.2 = true → ∀ H', KeepX D H H' → Tabs T H' → DeskAt CT CS CD H' D ((putM x.1 z i, x.2) :: x :: r) → Q .non H') ∧
  (chk (putM x.1 z i) x.2 = false → ∀ (H' : Hp) (d : Addr) (iv sv : V), BkV H' iv sv → KeepX D H H' → Tabs T H' → DeskAt CT CS CD H' D (x :: r) → H' d = some (.xd [(("shown" : Str), sv), (("index" : Str), iv)]) → E (.ref CB) (some d) H')
theorem ok_put {c Pt : Addr} {TT : List (Addr × Str)} (hme : Meth K CD "put" f) (F : FunC K "put" "Desk.put" sPut f fd c) (T : DkT K mg CT CS CD) (TS : ShT K mg CS) (B : Bt mg) (M : Mk K CS fS) (bS : L2.Binds K fdS ["self", "pairs", "pledges", "before"] []) (FS : FnOk P w K mg base L2.CX0 1 fS fdS ["self", "pairs", "pledges", "before"] (spShInit CS))
    (MC : MtX (L2.CX P w) P w K mg base 11 CD "check_claims" (spChk CT CB)) (CNm : C8.Cal P w K mg base 1 "is_name" spIsName []) (CTb : C8.Cal P w K mg base 1 "check_table" (spCheckT CT) []) (TB : TabB base mg c Pt) (hmT : (Pt, lamQ "Desk.put") ∈ TT) (hu : ∀ p ∈ TT, p.1 = Pt → p.2 = lamQ "Desk.put") :
    MtX (L2.CX P w) P w K mg base 12 CD "put" (spPut TT CT CS CD CB) := by
  refine ⟨f, fd, ["self", "name", "table"], T.cl, hme, F.okX scPut (fun vs H Q E h => ?_) (fun A outer s H vs Q E hr h => ?_), F.fn.binds (fun _ _ _ _ _ _ us hl => match us, hl with | [_, _, _], _ => rfl)⟩
  · obtain ⟨D, t, z, i, x, r, rfl, _⟩ := h
    rfl
  · obtain ⟨D, t, z, i, x, r, rfl, hz, hi, hT, hDk, hW, hl1, hl2, hTT, q, qB⟩ := h
    obtain ⟨dxD, sh, hD, hSh⟩ := id hDk
    refine ⟨_, pss_cons (ps_if (pt_not (pt_val (C8.pe_c CNm hr (by decide) (by rfl) (pa_cons (pv 1) pa_nil)))) (pss_one ps_never) pss_nil)
      (pss_cons (ps_expr (C8.pe_c CTb hr (by decide) (by rfl) (pa_cons (pv 2) pa_nil)))
      (pss_cons (ps_setLc (i := 3) (te := tVar 5) (tt := tTest (tOp rNe (tOp (rIxT K) (tVar 5) (tC (.int 0))) (tVar 1))) (own := [("pair", 5)]) (g := gName 5) rfl scPut.nd rfl rfl (sw_true rfl rfl rfl (by decide +kernel)) (pi_tup (pe_fld (pe_fld (pv 0) rfl) rfl)) (blkOk_by (N := ["self", "name", "table", "rest", "pairs", "pair"]) (sc := defScope sPut) (by decide +kernel)) (fun _ _ _ _ _ => pg_name (i := 5) scPut.nd rfl (Or.inl rfl))
          (fun _ _ _ _ _ => pts_one (pt_cmpR op_ne (pe_ix ix_tup (pv 5) pe_int (fun _ _ => rfl)) (pv 1) (nomark _))) (fun _ _ _ _ _ => pv 5))
      (pss_cons (ps_set (i := 4) scPut.nd rfl (Or.inl rfl) (pe_callTy call_tupleF (by rfl) B.tuple boot_tuple (pa_cons
          (pe_sortedLam (T := TT) (x := "pair") (by rfl) B.sorted (pa_cons (pe_lst (StX.pa_star (pv 3) (pa_cons (pe_tup (pa_cons (pv 1) (pa_cons (pv 2) pa_nil))) pa_nil))) pa_nil) TB rfl hmT hu hr rfl (by exact fun y hy e => absurd e (noKind (by decide +kernel) y hy)) rfl rfl rfl (by exact noKind (by decide +kernel)) rfl (by decide) (by intro q cl pm cv ctv u; rfl)) pa_nil)))
      (pss_cons (ps_expr (pe_mX MC hr (by decide) (pv 0) (passes_call (takes_of rfl rfl rfl rfl) (fun _ _ _ _ h => h)) (pa_cons (pv 4) (pa_cons (pe_fld (pe_fld (pv 0) rfl) rfl) pa_nil))))
      (pss_one (ps_fld (pv 0) (pe_make M FS (hr.mono (by decide)) (by rfl) TS.mgS bS .nil pass0 (pa_cons (pv 4) (pa_cons (pe_fld (pe_fld (pv 0) rfl) rfl) (pa_cons (pe_fld (pv 0) rfl) pa_nil)))) rfl)))))), ?_⟩
    refine ⟨_, rfl, z, rfl, hz, fun H1 s1 => ⟨true, rfl, iteF ?_⟩⟩
    obtain ⟨dxt, rt, ht, hRt⟩ := id hT
    refine ⟨_, rfl, t, dxt, _, rfl, s1 _ _ ht, ?_⟩
    have kf1 : KeepF CT CS H H1 := KeepF.of s1
    have hD1 := s1 _ _ hD
    have hSh1 := hSh.keep kf1
    obtain ⟨dx2, p, g, b, hs, ⟨⟨ps, hperm, hsort, hX⟩, as, hG, hga⟩, _⟩ := hSh1.top
    obtain ⟨qs, hq, hpp⟩ := hX.seq (K := K)
    refine ⟨_, rfl, D, CD, dxD, _, _, rfl, hD1, T.cl, T.nS, df_shelf sh, sh, CS, dx2, _, _, rfl, hs, TS.cl, TS.nP, sf_pairs _ _ _ _, p, rfl, ⟨_, hq⟩, fun D2 hD2' => ?_⟩
    refine lcF (walk_tup (K := K) (a := p) (xs := qs.map V.ref)) (fun x => decide (nmOf H1 x ≠ z)) (fun x y _ => y = x) (fun _ _ _ _ r _ => r) (fun H3 s3 => s3.tup hq) hD2' ?_ (fun i y H3 Ny Nn hx s3 _ hy hn => ?_) (fun H3 acc s3 hacc pr => ?_)
    · rw [List.length_map, paired_len hpp, hperm.length_eq]
      omega
    · obtain ⟨q0, hq0, rfl⟩ : ∃ t, t ∈ qs ∧ V.ref t = y := List.mem_map.mp (List.mem_of_getElem? hx)
      obtain ⟨ni, _, t, h1, _⟩ := paired_left hpp hq0
      refine ⟨rfl, _, rfl, q0, _, 0, _, rfl, rfl, SqT.of (s3 _ _ h1), atI_of (by decide) rfl, _, rfl, rfl, _, rfl, ?_⟩
      have en : nmOf H1 (.ref q0) = ni.1 := nmOf_eq h1
      by_cases hz2 : ni.1 = z
      · refine ifN (by rw [decide_eq_true (by rw [hz2])]; rfl) ?_
        exact hn (by rw [en]; simp [hz2]) _ (Same.refl _)
      · refine ifY (by rw [decide_eq_false (fun e => hz2 (V.str.inj e))]; rfl) ?_
        exact ⟨_, rfl, hy (by rw [en]; simp [hz2]) _ _ (Same.refl _) rfl⟩
    · have eacc : acc = (qs.map V.ref).filter (fun x => decide (nmOf H1 x ≠ z)) := paired_eq pr
      obtain ⟨qs', eq', hpp'⟩ := filt_pairs (z := z) hpp
      rw [eq'] at eacc
      subst eacc
      refine ⟨_, rfl, D2, _, rfl, .inr (SqL.of hacc), _, rfl, _, rfl, (by show 2 ≤ sizeLine; decide), fun np hnp => ?_⟩
      have hlen' : qs'.length ≤ 900 := by
        rw [paired_len hpp']
        have h1 := List.length_filter_le (fun ni : Str × Nat => decide (ni.1 ≠ z)) ps
        have h2 := hperm.length_eq
        omega
      refine ⟨?_, fun l hl => ?_⟩
      · rw [List.length_append, List.length_map]
        exact le_line (by show qs'.length + 1 ≤ 100000; omega)
      have s4 : Same H3 (upd (upd H3 np (.tup [.str z, .ref t])) l (.lst (qs'.map V.ref ++ [.ref np]))) := (same_new hnp).new hl
      have s13 : Same H1 (upd (upd H3 np (.tup [.str z, .ref t])) l (.lst (qs'.map V.ref ++ [.ref np]))) := s3.trans s4
      have s04 : Same H (upd (upd H3 np (.tup [.str z, .ref t])) l (.lst (qs'.map V.ref ++ [.ref np]))) := s1.trans s13
      have hnp4 : upd (upd H3 np (.tup [.str z, .ref t])) l (.lst (qs'.map V.ref ++ [.ref np])) np = some (.tup [.str z, .ref t]) := same_new hl _ _ upd_same
      -- the items, as they stand
      have hall : Paired (PairAtD CT (upd (upd H3 np (.tup [.str z, .ref t])) l (.lst (qs'.map V.ref ++ [.ref np])))) (qs' ++ [np]) (ps.filter (fun ni => decide (ni.1 ≠ z)) ++ [(z, i)]) :=
        paired_app (paired_mono hpp' fun _ _ _ e => e.same s13) (.cons ⟨t, hnp4, hT.same s04⟩ .nil)
      generalize hH4 : upd (upd H3 np (.tup [.str z, .ref t])) l (.lst (qs'.map V.ref ++ [.ref np])) = H4 at *
      have hl4 : H4 l = some (.lst ((qs' ++ [np]).map V.ref)) := by rw [← hH4, upd_same, List.map_append]; rfl
      refine ⟨l, (qs' ++ [np]).map V.ref, nmOf H4, rfl, hTT.ext s04, hl4, fun x hx => ?_, fun H5 eN T5 p5 hp5 => ?_⟩
      · obtain ⟨q0, hq0, rfl⟩ := List.mem_map.mp hx
        obtain ⟨ni, _, tt, h1, _⟩ := paired_left hall hq0
        exact ⟨q0, _, rfl, by rw [nmOf_eq h1]; exact h1⟩
      -- the lambda is made, the list is sorted
      have kf5 : KeepF CT CS H4 H5 := fun b o e f => eN b o e fun ps z => by
        rw [z] at f
        exact f
      have hvp : Paired (fun (v : V) (ni : Str × Nat) => ∃ q, v = .ref q ∧ PairAtD CT H4 q ni) ((qs' ++ [np]).map V.ref) (ps.filter (fun ni => decide (ni.1 ≠ z)) ++ [(z, i)]) := paired_refs' hall
      obtain ⟨ws, hws, hwp⟩ := paired_perm (sort_perm (fun x => PyData.str (nmOf H4 x)) ((qs' ++ [np]).map V.ref)) hvp
      have hwsort : sortedN ws := by
        refine paired_pw (fun a b c d hac hbd hab => ?_) hws (sort_pair (fun x => PyData.str (nmOf H4 x)) ((qs' ++ [np]).map V.ref))
        obtain ⟨qa, rfl, ta, ha1, _⟩ := hac
        obtain ⟨qb, rfl, tb, hb1, _⟩ := hbd
        rw [nmOf_eq ha1, nmOf_eq hb1, PySem.W.dataLt_str] at hab
        exact of_decide_eq_false hab
      obtain ⟨us, eus, pus⟩ := paired_refs (F := PairAtD CT H4) (paired_swap hws)
      refine ⟨p5, _, rfl, SqL.of upd_same, fun pT oT hpT hoT => ?_⟩
      rw [eus] at hpT ⊢
      have s6 : Same H5 (upd (upd H5 p5 (.lst (us.map V.ref))) pT (.frz oT (.tup (us.map V.ref)))) := (same_new hp5).new hpT
      have kf6 : KeepF CT CS H4 (upd (upd H5 p5 (.lst (us.map V.ref))) pT (.frz oT (.tup (us.map V.ref)))) := kf5.trans (KeepF.of s6)
      have kx : KeepX D H (upd (upd H5 p5 (.lst (us.map V.ref))) pT (.frz oT (.tup (us.map V.ref)))) := fun b o e _ h => s6 _ _ (eN b o (s04 _ _ e) h)
      have hD6 : upd (upd H5 p5 (.lst (us.map V.ref))) pT (.frz oT (.tup (us.map V.ref))) D = some (.ins CD dxD (df sh)) := s6 _ _ (eN _ _ (s04 _ _ hD) fun ps z => by cases z)
      have hSh6 : ShelfAt CT CS (upd (upd H5 p5 (.lst (us.map V.ref))) pT (.frz oT (.tup (us.map V.ref)))) sh (x :: r) := hSh.keep ((KeepF.of s04).trans kf6)
      have T6 : Tabs TT (upd (upd H5 p5 (.lst (us.map V.ref))) pT (.frz oT (.tup (us.map V.ref)))) := T5.ext s6
      have hPT : PairsF CT (upd (upd H5 p5 (.lst (us.map V.ref))) pT (.frz oT (.tup (us.map V.ref)))) pT ws := ⟨oT, us, upd_same, hoT, paired_mono pus fun q ni _ e => e.keep kf6⟩
      generalize upd (upd H5 p5 (.lst (us.map V.ref))) pT (.frz oT (.tup (us.map V.ref))) = H6 at *
      have hs6 := (KeepF.trans (KeepF.of s13) kf6 : KeepF CT CS H1 H6) _ _ hs (.inr rfl)
      have hG6 : ClaimsAt H6 g x.2 := (show ClaimsAt H1 g x.2 from ⟨as, hG, hga⟩).keep (KeepF.trans (KeepF.of s13) kf6 : KeepF CT CS H1 H6)
      have hmP : ws.Perm (putM x.1 z i) := hwp.trans ((hperm.filter _).append_right _)
      have hndP : ((putM x.1 z i).map (·.1)).Nodup := putM_nodup hW.nd
      refine ⟨_, rfl, D, dxD, _, rfl, hD6, df_no _ (by decide +kernel), ?_⟩
      refine ⟨_, rfl, _, rfl, D, CD, dxD, _, _, rfl, hD6, T.cl, T.nS, df_shelf sh, sh, CS, dx2, _, _, rfl, hs6, TS.cl, TS.nG, sf_pledges _ _ _ _, ?_⟩
      have hwlen : ws.length ≤ 1000 := by
        rw [hmP.length_eq]
        unfold putM
        rw [List.length_append]
        have h1 := List.length_filter_le (fun ni : Str × Nat => decide (ni.1 ≠ z)) x.1
        show _ + 1 ≤ 1000
        omega
      refine ⟨.ref D, pT, g, ws, x.2, rfl, hPT, (hmP.map (fun ni : Str × Nat => ni.1)).nodup_iff.mpr hndP, hwlen, fun ni hni => ?_, hG6, fun c' hc' => ?_, fun hok H7 s7 => ?_, fun hbad H7 d iv sv bk s7 hd => ?_⟩
      · rcases List.mem_append.mp (hmP.mem_iff.mp hni) with h | h
        · exact hW.i8 ni (List.mem_filter.mp h).1
        · rw [List.mem_singleton.mp h]
          exact hi
      · obtain ⟨j, hj⟩ := mem_names (hW.cl c' hc')
        by_cases hcz : c' = z
        · exact ⟨i, hmP.mem_iff.mpr (List.mem_append_right _ (by rw [hcz]; exact List.mem_singleton.mpr rfl))⟩
        · exact ⟨j, hmP.mem_iff.mpr (List.mem_append_left _ (List.mem_filter.mpr ⟨hj, by simp [hcz]⟩))⟩
      · rw [chk_perm hmP] at hok
        have kf7 : KeepF CT CS H6 H7 := KeepF.of s7
        have hD7 := s7 _ _ hD6
        have hSh7 := hSh6.keep kf7
        refine ⟨_, rfl, _, rfl, D, CD, dxD, _, _, rfl, hD7, T.cl, T.nS, df_shelf sh, sh, CS, dx2, _, _, rfl, s7 _ _ hs6, TS.cl, TS.nG, sf_pledges _ _ _ _, _, rfl, D, CD, dxD, _, _, rfl, hD7, T.cl, T.nS, df_shelf sh, fun sN dxN hsN hdxN hneN => ?_⟩
        obtain ⟨hdep, hshne⟩ := depth_push (d := 0) hSh7 hsN hdxN
        refine ⟨sN, dxN, _, _, _, _, rfl, upd_same, fun b' e => (by cases e; exact hshne), hdep, fun H8 k8 h8 => ⟨rfl, ?_⟩⟩
        have hx' : SnapAt CT H7 pT g (putM x.1 z i, x.2) := ⟨⟨ws, hmP, hwsort, .inr (hPT.same s7)⟩, hG6.same s7⟩
        obtain ⟨kp, hdk⟩ := desk_push hD7 hSh7 hsN hdxN T.ne1 T.ne2 k8 h8 hx'
        have s8 : Same H7 H8 := fun b o e => by
          have n1 := ne_of_none e hsN
          have n2 := ne_of_none e hdxN
          exact k8 b o n1 (by rw [upd_ne n1, upd_ne n2]; exact e)
        refine ⟨_, rfl, D, CD, dxD, _, rfl, s8 _ _ hD7, T.cl, T.nS, (by show 1 < 1000; decide), ?_⟩
        rw [df_put] at *
        exact q hok _ (fun b o e hb h => kp b o (s7 _ _ (kx b o e hb h)) hb) (tabs_upd ((T6.ext s7).ext s8) (s8 _ _ hD7)) hdk
      · rw [chk_perm hmP] at hbad
        exact qB hbad H7 d iv sv bk (kx.trans (KeepX.of s7)) (T6.ext s7) ⟨dxD, sh, s7 _ _ hD6, hSh6.keep (KeepF.of s7)⟩ hd
end
end Ky
end

section
set_option Elab.async false
set_option linter.all false
set_option maxRecDepth 100000
set_option maxHeartbeats 2000000
namespace Ky
open PySem PySem.Spec PyProof.Rows L2
abbrev pW : Int := 2147483579
/-- the well at W -/
def WellAt (H : Hp) (W : Addr) : Prop := ∃ d s : Int, H W = some (.lst [.int d, .int s]) ∧ 0 ≤ d ∧ 0 ≤ s ∧ s < pW
section
variable {P : Program} {w : World} {K : PySem.W.Frag} {mg : Str → Option Value} {base : Heap} {f : Addr} {fd : FuncData}
/-! _law_take -/
theorem scTk : FnScope ["_law_well_here", "_law_top", "_law_digit"] ["_law_well_here", "_law_top"] (defScope sTake) := ⟨rfl, rfl, rfl, by decide +kernel, rfl, by decide +kernel, by decide +kernel⟩
def spTake : Sp := fun vs H Q _ => ∃ (W : Addr) (n : Int), vs = [.ref W, .int n] ∧ WellAt H W ∧ 0 < n ∧ n < 1000 ∧ ∀ (H' : Hp) (r : Nat), KeepD W H H' → WellAt H' W → (r : Int) < n → Q (.int r) H'
theorem keepD_upd {W : Addr} {H : Hp} {o : HO} : KeepD W H (upd H W o) := fun b u e hb => by rw [upd_ne hb]; exact e
theorem KeepD.trans {W : Addr} {H H1 H2 : Hp} (a : KeepD W H H1) (b : KeepD W H1 H2) : KeepD W H H2 := fun c o e h => b c o (a c o e h) h
theorem KeepD.of {W : Addr} {H H' : Hp} (s : Same H H') : KeepD W H H' := fun b o e _ => s b o e
theorem ok_take (F : L2.Fun K "_law_take" "_law_take" sTake f fd) (hm : mg "_law_take" = some (.ref f)) (B : Bt mg) : C8.Cal P w K mg base 1 "_law_take" spTake [] := by
  refine cal_mk F hm scTk (fun _ _ _ _ _ _ us hl => match us, hl with | [_, _], _ => rfl) (fun vs H Q E h => ?_) (fun cdv A outer s H vs Q E hr h => ?_)
  · obtain ⟨W, n, rfl, _⟩ := h
    rfl
  · obtain ⟨W, n, rfl, ⟨d, z, hW, d0, z0, z1⟩, n0, n1, q⟩ := h
    have z1' : z < 2147483579 := z1
    refine ⟨_, pss_cons (ps_if (pt_cmpR op_gt (pe_ix ix_list (pv 0) pe_int (fun _ _ => rfl)) pe_int (nomark _))
        (pss_cons (ps_asg (pe_callB call_divmod (by rfl) B.divmod (by decide +kernel) (pa_cons (pe_ix ix_list (pv 0) pe_int (fun _ _ => rfl)) (pa_cons (pv 1) pa_nil))) (pg_tup rfl (pgs_cons (pg_sub (pv 0) pe_int set_list) (pgs_cons (pg_name (i := 2) scTk.nd rfl (.inl rfl)) pgs_nil))))
          (pss_one (ps_ret (pv 2)))) pss_nil)
      (pss_cons (ps_asg (pe_op op_mod (pe_callTy call_int1 (by rfl) B.int boot_int (pa_cons (pe_op op_add (pe_op op_mul (pe_ix ix_list (pv 0) pe_int (fun _ _ => rfl)) pe_int) pe_int) pa_nil)) pe_int) (pg_sub (pv 0) pe_int set_list))
      (pss_one (ps_ret (pe_op op_mod (pe_callTy call_int1 (by rfl) B.int boot_int (pa_cons (pe_op op_fdiv (pe_op op_pow (pe_ix ix_list (pv 0) pe_int (fun _ _ => rfl)) pe_int) pe_int) pa_nil)) (pv 1))))), ?_⟩
    refine ⟨_, rfl, W, _, 0, _, rfl, rfl, SqL.of hW, atI_of (by decide) rfl, _, _, rfl, rfl, _, rfl, ?_⟩
    by_cases hd : 0 < d
    · refine ifY (decide_eq_true hd) ?_
      refine ⟨_, rfl, W, _, 0, _, rfl, rfl, SqL.of hW, atI_of (by decide) rfl, _, rfl, d, n, rfl, ⟨n0, by omega⟩, fun p hp => ?_⟩
      have hW1 : upd H p (.tup [.int (d / n), .int (d % n)]) W = some (.lst [.int d, .int z]) := same_new hp _ _ hW
      refine ⟨p, _, rfl, SqT.of upd_same, rfl, _, _, rfl, _, rfl, W, _, 0, 0, rfl, rfl, hW1, rfl, _, _, rfl, rfl, ?_⟩
      have r0 : 0 ≤ d % n := Int.emod_nonneg _ (by omega)
      have r1 : d % n < n := Int.emod_lt_of_pos _ n0
      refine ⟨_, rfl, ?_⟩
      have e : d % n = ((d % n).toNat : Int) := by omega
      show Q (.int (d % n)) _
      rw [e]
      refine q _ (d % n).toNat ((KeepD.of (same_new hp)).trans keepD_upd) ⟨d / n, z, upd_same, Int.ediv_nonneg d0 (by omega), z0, z1⟩ (by omega)
    · refine ifN (decide_eq_false hd) ?_
      refine ⟨_, rfl, W, _, 1, _, rfl, rfl, SqL.of hW, atI_of (by decide) rfl, _, _, rfl, rfl, .inl ⟨by omega, by omega⟩, _, _, rfl, rfl, .inl ⟨_, rfl, _, _, rfl, rfl, (by show (0 : Int) < 2147483579; decide), ?_⟩⟩
      refine ⟨_, rfl, W, _, 1, 1, rfl, rfl, hW, rfl, ?_⟩
      have y0 : 0 ≤ (z * 60013 + 70001) % 2147483579 := Int.emod_nonneg _ (by decide)
      have y1 : (z * 60013 + 70001) % 2147483579 < 2147483579 := Int.emod_lt_of_pos _ (by decide)
      refine ⟨_, rfl, W, _, 1, _, rfl, rfl, SqL.of upd_same, atI_of (by decide) rfl, _, _, rfl, rfl, ⟨by decide, by decide, by omega⟩, _, _, rfl, rfl, ⟨by decide, by decide⟩, .inl ⟨_, rfl, _, rfl, _, _, rfl, rfl, n0, ?_⟩⟩
      have r0 := Int.emod_nonneg (((z * 60013 + 70001) % 2147483579) ^ (3 : Int).toNat / 1033) (b := n) (by omega)
      have r1 := Int.emod_lt_of_pos (((z * 60013 + 70001) % 2147483579) ^ (3 : Int).toNat / 1033) n0
      have e : (((z * 60013 + 70001) % 2147483579) ^ (3 : Int).toNat / 1033) % n = (((((z * 60013 + 70001) % 2147483579) ^ (3 : Int).toNat / 1033) % n).toNat : Int) := by omega
      show Q (.int ((((z * 60013 + 70001) % 2147483579) ^ (3 : Int).toNat / 1033) % n)) _
      rw [e]
      exact q _ _ keepD_upd ⟨d, _, upd_same, d0, y0, y1⟩ (by omega)
/-! _law_one -/
theorem scOne : FnScope ["_law_well_here", "_law_things"] ["_law_well_here", "_law_things"] (defScope sOne) := ⟨rfl, rfl, rfl, by decide +kernel, rfl, by decide +kernel, by decide +kernel⟩
def spOne : Sp := fun vs H Q _ => ∃ (W : Addr) (y : V), vs = [.ref W, y] ∧ WellAt H W ∧
  ((∃ (l : Addr) (ys : List V), y = .ref l ∧ l ≠ W ∧ H l = some (.lst ys) ∧ 0 < ys.length ∧ ys.length < 1000 ∧ ∀ (H' : Hp) (r : Nat) (v : V), KeepD W H H' → WellAt H' W → ys[r]? = some v → Q v H') ∨
   (∃ z : Str, y = .str z ∧ 0 < z.length ∧ z.length < 1000 ∧ ∀ (H' : Hp) (c : Nat), KeepD W H H' → WellAt H' W → c ∈ z.cps.toList → Q (.str ⟨#[c]⟩) H'))
theorem ok_one (F : L2.Fun K "_law_one" "_law_one" sOne f fd) (hm : mg "_law_one" = some (.ref f)) (B : Bt mg) (C1 : C8.Cal P w K mg base 1 "_law_take" spTake []) : C8.Cal P w K mg base 2 "_law_one" spOne [] := by
  refine cal_mk F hm scOne (fun _ _ _ _ _ _ us hl => match us, hl with | [_, _], _ => rfl) (fun vs H Q E h => ?_) (fun cdv A outer s H vs Q E hr h => ?_)
  · obtain ⟨W, y, rfl, _⟩ := h
    rfl
  · obtain ⟨W, y, rfl, hW, h⟩ := h
    refine ⟨_, pss_one (ps_ret (pe_ix ix_seq (pv 1) (C8.pe_c C1 hr (by decide) (by rfl) (pa_cons (pv 0) (pa_cons (pe_callB call_len (by rfl) B.len PySem.boot_len (pa_cons (pv 1) pa_nil)) pa_nil))) (fun _ _ => rfl))), ?_⟩
    rcases h with ⟨l, ys, rfl, hne, hl, l0, l1, q⟩ | ⟨z, rfl, l0, l1, q⟩
    · refine ⟨_, rfl, _, rfl, _, rfl, _, _, rfl, .inl ⟨_, SqL.of hl, rfl⟩, W, _, rfl, hW, by omega, by omega, fun H1 r k hW1 hr1 => ?_⟩
      have hlt : r < ys.length := by omega
      refine .inl ⟨l, ys, r, ys[r], rfl, rfl, SqL.of (k _ _ hl hne), atI_nat (by simp [hlt]), q H1 r _ k hW1 (by simp [hlt])⟩
    · refine ⟨_, rfl, _, rfl, _, rfl, _, z.length, rfl, ⟨le_line (by omega), rfl⟩, W, _, rfl, hW, by omega, by omega, fun H1 r k hW1 hr1 => ?_⟩
      have hlt : r < z.cps.toList.length := by
        rw [Array.length_toList]
        have : z.cps.size = z.length := rfl
        omega
      refine .inr (.inr ⟨z, r, z.cps.toList[r], rfl, rfl, le_line (by omega), atI_nat (by simp [hlt]), q H1 _ k hW1 (List.getElem_mem hlt)⟩)
/-! _law_sheets -/
theorem scSheets : FnScope [] [] (defScope sSheets) := ⟨rfl, rfl, rfl, by decide +kernel, rfl, by decide +kernel, by decide +kernel⟩
def shTs : List V := sheets.map fun p => .str p.1
def spSheets : Sp := fun vs H Q _ => vs = [] ∧ ∀ p, H p = none → Q (.ref p) (upd H p (.lst shTs))
theorem ok_sheets (F : L2.Fun K "_law_sheets" "_law_sheets" sSheets f fd) (hm : mg "_law_sheets" = some (.ref f)) : C8.Cal P w K mg base 1 "_law_sheets" spSheets [] := by
  refine cal_mk F hm scSheets (fun _ _ _ _ _ _ us hl => match us, hl with | [], _ => rfl) (fun vs H Q E h => ?_) (fun cdv A outer s H vs Q E hr h => ?_)
  · obtain ⟨rfl, _⟩ := h
    rfl
  · obtain ⟨rfl, q⟩ := h
    refine ⟨_, pss_one (ps_ret (pe_lst (pa_cons pe_str (pa_cons pe_str (pa_cons pe_str (pa_cons pe_str (pa_cons pe_str (pa_cons pe_str (pa_cons pe_str (pa_cons pe_str pa_nil)))))))))), ?_⟩
    exact ⟨by show 8 ≤ sizeLine; decide, fun p hp => q p hp⟩
/-! _law_well -/
theorem scWell : FnScope ["_law_script", "_law_turn", "_law_own", "_law_stirred", "_law_each"] ["_law_script", "_law_turn"] (defScope sWell) := ⟨rfl, rfl, rfl, by decide +kernel, rfl, by decide +kernel, by decide +kernel⟩
def spWell (K : PySem.W.Frag) : Sp := fun vs H Q _ => ∃ (a : Addr) (ns : List Int) (t : Nat), vs = [.ref a, .int t] ∧ SqL K H a (ns.map V.int) ∧ ns.length ≤ 63 ∧ t < 100 ∧ ∀ (H' : Hp) (W : Addr), Same H H' → H W = none → WellAt H' W → Q (.ref W) H'
theorem ok_well (F : L2.Fun K "_law_well" "_law_well" sWell f fd) (hm : mg "_law_well" = some (.ref f)) (B : Bt mg) : C8.Cal P w K mg base 1 "_law_well" (spWell K) [] := by
  refine cal_mk F hm scWell (fun _ _ _ _ _ _ us hl => match us, hl with | [_, _], _ => rfl) (fun vs H Q E h => ?_) (fun cdv A outer s H vs Q E hr h => ?_)
  · obtain ⟨a, ns, t, rfl, _⟩ := h
    rfl
  · obtain ⟨a, ns, t, rfl, hS, hn, ht, q⟩ := h
    refine ⟨_, C8.pss_cut (ps_set (i := 2) scWell.nd rfl (Or.inl rfl) (pe_ifExp (pt_cmpR op_lt (pv 1) (pe_callB call_len_seq (by rfl) B.len PySem.boot_len (pa_cons (pv 0) pa_nil)) (nomark _)) (pe_ix ix_list (pv 0) (pv 1) (fun _ _ => rfl)) (pe_op op_add (pe_op op_mul pe_int (pv 1)) pe_int)))
      (pss_cons (ps_set (i := 3) scWell.nd rfl (Or.inl rfl) (pe_op op_add pe_int (pe_op op_mul pe_int (pv 1))))
      (pss_cons (ps_for PassesOwn.never rfl (pi_list (pe_op op_cat (pe_slice sl_list (pv 0) po_none (po_some pe_int)) (pe_lst (pa_cons (pv 2) pa_nil)))) (pg_name (i := 4) scWell.nd rfl (.inl rfl))
        (pss_one (ps_set (i := 3) scWell.nd rfl (Or.inl rfl) (pe_op op_mod (pe_callTy call_int1 (by rfl) B.int boot_int (pa_cons (pe_op op_add (pe_op op_add (pe_op op_mul (pv 3) pe_int) (pe_op op_mod (pe_callTy call_int1 (by rfl) B.int boot_int (pa_cons (pv 4) pa_nil)) pe_int)) pe_int) pa_nil)) pe_int))))
      (pss_one (ps_ret (pe_lst (pa_cons (pe_ifExp (PW.pt (pw_or (pt_cmpR op_lt (pv 2) pe_int (nomark _)) (pw_or1 (pt_cmpR op_ge (pv 2) (pe_op op_pow pe_int pe_int) (nomark _))))) (pe_callB call_abs (by rfl) B.abs (by decide +kernel) (pa_cons (pv 2) pa_nil)) pe_int) (pa_cons (pv 3) pa_nil))))))), ?_⟩
    refine ⟨fun σ' H' => H = H' ∧ ∃ own : Int, σ' = [some (.ref a), some (.int t), some (.int own), none, none], ?_, ?_⟩
    · refine ⟨_, rfl, _, rfl, a, _, rfl, .inl hS, _, _, rfl, rfl, _, rfl, ?_⟩
      rw [List.length_map]
      by_cases hlt : t < ns.length
      · refine ifY (decide_eq_true (by omega)) ?_
        exact ⟨_, rfl, _, rfl, a, _, t, .int ns[t], rfl, rfl, hS, atI_nat (by simp [hlt]), rfl, _, rfl⟩
      · refine ifN (decide_eq_false (by omega)) ?_
        exact ⟨_, rfl, _, _, rfl, rfl, .inl ⟨by decide, by decide⟩, _, _, rfl, rfl, rfl, _, rfl⟩
    · rintro σ' H' ⟨rfl, own, rfl⟩
      refine ⟨_, rfl, _, _, rfl, rfl, .inl ⟨by decide, by decide⟩, _, _, rfl, rfl, ?_⟩
      refine ⟨_, rfl, 5, rfl, a, _, rfl, hS, fun p1 hp1 => ?_⟩
      refine ⟨_, rfl, (by show 1 ≤ sizeLine; decide), fun p2 hp2 => ?_⟩
      have ecut : cutV (ns.map V.int) none (some 5) = (ns.take 5).map V.int := by rw [show (5 : Int) = ((5 : Nat) : Int) from rfl, cutV_to, List.map_take]
      rw [ecut] at hp2 ⊢
      refine ⟨p1, p2, _, _, rfl, rfl, same_new hp2 _ _ upd_same, upd_same, ?_, fun p3 hp3 => ?_⟩
      · rw [List.length_map, List.length_take]
        exact le_line (by show min 5 ns.length + 1 ≤ 100000; omega)
      have s3 := ((same_new (o := .lst ((ns.take 5).map V.int)) hp1).new hp2 (o := .lst [.int own])).new hp3 (o := .lst ((ns.take 5).map V.int ++ [.int own]))
      refine ⟨p3, rfl, ⟨_, SqL.of upd_same⟩, ?_⟩
      refine for_list (K := K) (a := p3) (xs := (ns.take 5).map V.int ++ [.int own]) (fun i σ H' => Same (upd (upd (upd H p1 (.lst ((ns.take 5).map V.int))) p2 (.lst [.int own])) p3 (.lst ((ns.take 5).map V.int ++ [.int own]))) H' ∧ ∃ (z : Int) (v4 : Option V), σ = [some (.ref a), some (.int t), some (.int own), some (.int z), v4] ∧ 0 ≤ z ∧ z < pW)
        ⟨Same.refl _, _, none, rfl, by omega, by show _ < (2147483579 : Int); omega⟩ (fun i σ H' _ pv => SqL.of (pv.1 _ _ upd_same)) ?_ ?_
      · rintro i y σ H1 hx ⟨s4, z, v4, rfl, z0, z1⟩
        obtain ⟨e, rfl⟩ : ∃ e : Int, y = .int e := by
          rcases List.mem_append.mp (List.mem_of_getElem? hx) with h | h
          · obtain ⟨e, _, h⟩ := List.mem_map.mp h
            exact ⟨e, h.symm⟩
          · exact ⟨own, List.mem_singleton.mp h⟩
        have z1' : z < 2147483579 := z1
        refine ⟨_, rfl, _, _, rfl, rfl, .inl ⟨by omega, by omega⟩, _, rfl, .inl ⟨_, rfl, _, _, rfl, rfl, (by show (0 : Int) < 2147483579; decide), ?_⟩⟩
        refine ⟨_, _, rfl, rfl, _, _, rfl, rfl, .inl ⟨_, rfl, _, _, rfl, rfl, (by show (0 : Int) < 2147483579; decide), ?_⟩⟩
        exact ⟨s4, _, _, rfl, Int.emod_nonneg _ (by decide), Int.emod_lt_of_pos _ (by decide)⟩
      · rintro σ H1 ⟨s4, z, v4, rfl, z0, z1⟩
        have fin : ∀ d : Int, 0 ≤ d → (tCons (tVar 3) tNil) [some (.ref a), some (.int t), some (.int own), some (.int z), v4] H1 (fun xs H2 => (V.int d :: xs).length ≤ sizeLine ∧ ∀ p, H2 p = none → Q (.ref p) (upd H2 p (.lst (V.int d :: xs)))) := fun d hd => by
          refine ⟨_, rfl, (by show 2 ≤ sizeLine; decide), fun p hp => ?_⟩
          exact q _ p ((s3.trans s4).new hp) ((s3.trans s4).free hp) ⟨d, z, upd_same, hd, z0, z1⟩
        refine ⟨_, rfl, _, _, rfl, rfl, _, rfl, ?_⟩
        by_cases h1 : own < 0
        · refine ifY (decide_eq_true h1) ?_
          refine ifY rfl ?_
          refine ⟨_, rfl, _, rfl, ?_⟩
          rw [if_pos h1]
          exact fin _ (by omega)
        · refine ifN (decide_eq_false h1) ?_
          refine ⟨_, rfl, _, _, rfl, rfl, ⟨by decide, by decide, by decide⟩, _, _, rfl, rfl, _, rfl, ?_⟩
          by_cases h2 : (10 : Int) ^ (17 : Int).toNat ≤ own
          · refine ifY (decide_eq_true h2) ?_
            refine ⟨_, rfl, _, rfl, ?_⟩
            rw [if_neg h1]
            exact fin _ (by omega)
          · refine ifN (decide_eq_false h2) ?_
            exact fin 0 (by omega)
end
end Ky
end

section
set_option Elab.async false
set_option linter.all false
set_option maxRecDepth 100000
set_option maxHeartbeats 2000000
namespace Ky
open PySem PySem.Spec PyProof.Rows L2
open SX (S)
theorem S_cat' (a b : List Nat) : S a ++ S b = S (a ++ b) := SX.S_cat a b
def alph : List Nat := sLetters.cps.toList
/-- what a name is made of: a stretch ahead, one sign, a stretch behind -/
def NmR (a : List Nat) (c : Nat) (n : Str) : Prop := ∃ b : List Nat, n = S (a ++ c :: b) ∧ a.length + b.length ≤ 7 ∧ (∀ x ∈ b, x ∈ alph)
theorem nm_ok {a : List Nat} (ha : ∀ x ∈ a, x ∈ alph) {c : Nat} {n : Str} (h : NmR a c n) (hc : c ∈ alph) : NameOk n := by
  obtain ⟨b, rfl, hl, hb⟩ := h
  refine ⟨?_, ?_, fun x hx => ?_⟩
  · show 1 ≤ (a ++ c :: b).toArray.size
    simp
    omega
  · show (a ++ c :: b).toArray.size ≤ 8
    simp
    omega
  · have hx' : x ∈ a ++ c :: b := by simpa using hx
    rcases List.mem_append.mp hx' with h | h
    · exact ha x h
    · rcases List.mem_cons.mp h with h | h
      · rw [h]; exact hc
      · exact hb x h
theorem nm_inj {a : List Nat} {c d : Nat} {n : Str} (h1 : NmR a c n) (h2 : NmR a d n) : c = d := by
  obtain ⟨b1, e1, _⟩ := h1
  obtain ⟨b2, e2, _⟩ := h2
  have e := SX.S_inj (e1.symm.trans e2)
  have e3 := List.append_cancel_left e
  exact (List.cons.inj e3).1
theorem nm_all {a : List Nat} (ha : ∀ x ∈ a, x ∈ alph) : ∀ {cs : List Nat} {ns : List Str}, Paired (NmR a) cs ns → cs.Nodup → (∀ c ∈ cs, c ∈ alph) → ns.Nodup ∧ ∀ n ∈ ns, NameOk n
  | _, _, .nil, _, _ => ⟨.nil, fun _ h => by cases h⟩
  | c :: cs, n :: ns, .cons h t, hn, hc => by
    obtain ⟨h1, h2⟩ := List.nodup_cons.mp hn
    obtain ⟨i1, i2⟩ := nm_all ha t h2 fun x hx => hc x (List.mem_cons_of_mem _ hx)
    refine ⟨List.nodup_cons.mpr ⟨fun hm => ?_, i1⟩, fun x hx => ?_⟩
    · obtain ⟨d, hd, hd2⟩ := paired_left (paired_swap t) hm
      exact h1 (nm_inj h hd2 ▸ hd)
    · rcases List.mem_cons.mp hx with e | e
      · rw [e]
        exact nm_ok ha h (hc c List.mem_cons_self)
      · exact i2 x e
theorem map_erase {α β : Type} (f : α → β) : ∀ (l : List α) (k : Nat), (l.map f).eraseIdx k = (l.eraseIdx k).map f
  | [], _ => rfl
  | _ :: _, 0 => rfl
  | a :: l, k + 1 => by
    show f a :: (l.map f).eraseIdx k = f a :: (l.eraseIdx k).map f
    rw [map_erase f l k]
theorem erase_perm {α : Type} : ∀ (l : List α) (k : Nat) (x : α), l[k]? = some x → (x :: l.eraseIdx k).Perm l
  | [], _, _, h => by simp at h
  | a :: l, 0, x, h => by
    have e : a = x := Option.some.inj h
    subst e
    exact .refl _
  | a :: l, k + 1, x, h => by
    have ih := erase_perm l k x (by simpa using h)
    exact (List.Perm.swap a x _).trans (ih.cons a)
section
variable {P : Program} {w : World} {K : PySem.W.Frag} {mg : Str → Option Value} {base : Heap} {f : Addr} {fd : FuncData}
abbrev NNm : List Str := ["_law_well_here", "_law_many", "_law_alphabet", "_law_letters", "_law_base", "_law_turn", "_law_signs", "_law_at", "_law_sign"]
theorem scNm : FnScope NNm ["_law_well_here", "_law_many"] (defScope sNm) := ⟨rfl, rfl, rfl, by decide +kernel, rfl, by decide +kernel, by decide +kernel⟩
theorem frz {W p : Addr} {H H' : Hp} (k : KeepD W H H') (w0 : WellAt H W) (w : WellAt H' W) (h : H' p = none) : H p = none := by
  by_cases e : p = W
  · obtain ⟨d, z, e1, _⟩ := w
    rw [e, e1] at h
    cases h
  · cases h2 : H p with
    | none => rfl
    | some o => rw [k _ _ h2 e] at h; cases h
theorem wellNew {W p : Addr} {H : Hp} {o : HO} (w : WellAt H W) (h : H p = none) : WellAt (upd H p o) W := by
  obtain ⟨d, z, e1, e2⟩ := w
  exact ⟨d, z, same_new h _ _ e1, e2⟩
theorem wellUpd {W p : Addr} {H : Hp} {o : HO} (w : WellAt H W) (h : p ≠ W) : WellAt (upd H p o) W := by
  obtain ⟨d, z, e1, e2⟩ := w
  exact ⟨d, z, by rw [upd_ne h.symm]; exact e1, e2⟩
theorem nmStart {W p : Addr} {H : Hp} {a : List Nat} {sg : List Nat} (w : WellAt H W) (h : H p = none) : WellAt (upd H p (.lst [])) W ∧ KeepD W H (upd H p (.lst [])) ∧ ∃ ns : List Str, upd H p (.lst []) p = some (.lst (ns.map V.str)) ∧ Paired (NmR a) (sg.take 0) ns :=
  ⟨wellNew w h, KeepD.of (same_new h), [], upd_same, .nil⟩
theorem nmStep {W p : Addr} {H H' : Hp} {a : List Nat} {sg : List Nat} {i c : Nat} {ns : List Str} {n : Str} (h : H p = none) (hpW : p ≠ W) (hs : sg.length = 4) (hc : sg[i]? = some c) (w : WellAt H' W) (k : KeepD W H H') (e : H' p = some (.lst (ns.map V.str))) (pr : Paired (NmR a) (sg.take i) ns) (hn : NmR a c n) :
    ∃ acc, H' p = some (.lst acc) ∧ acc.length < sizeLine ∧ WellAt (upd H' p (.lst (acc ++ [.str n]))) W ∧ KeepD W H (upd H' p (.lst (acc ++ [.str n]))) ∧ ∃ ns : List Str, upd H' p (.lst (acc ++ [.str n])) p = some (.lst (ns.map V.str)) ∧ Paired (NmR a) (sg.take (i + 1)) ns := by
  refine ⟨_, e, ?_, wellUpd w hpW, fun b o hb hbW => ?_, ns ++ [n], ?_, ?_⟩
  · have := paired_len pr
    rw [List.length_map, ← this, List.length_take]
    exact lt_line (by omega)
  · rw [upd_ne (fun e => by rw [e, h] at hb; cases hb)]
    exact k _ _ hb hbW
  · rw [upd_same, List.map_append]; rfl
  · rw [take_snoc hc]
    exact paired_snoc pr hn
def spNm : Sp := fun vs H Q _ => ∃ W : Addr, vs = [.ref W, .int 4] ∧ WellAt H W ∧ ∀ (H' : Hp) (p : Addr) (ns : List Str), KeepD W H H' → WellAt H' W → H p = none → H' p = some (.lst (ns.map V.str)) → ns.length = 4 → ns.Nodup → (∀ n ∈ ns, NameOk n) → Q (.ref p) H'
theorem ok_nm (F : L2.Fun K "_law_names" "_law_names" sNm f fd) (hm : mg "_law_names" = some (.ref f)) (B : Bt mg) (C1 : C8.Cal P w K mg base 1 "_law_take" spTake []) (C2 : C8.Cal P w K mg base 2 "_law_one" spOne []) : C8.Cal P w K mg base 3 "_law_names" spNm [] := by
  refine cal_mk F hm scNm (fun _ _ _ _ _ _ us hl => match us, hl with | [_, _], _ => rfl) (fun vs H Q E h => ?_) (fun cdv A outer s H vs Q E hr h => ?_)
  · obtain ⟨W, rfl, _⟩ := h
    rfl
  · obtain ⟨W, rfl, hW, q⟩ := h
    refine ⟨_, pss_cons (ps_set (i := 2) scNm.nd rfl (Or.inl rfl) pe_str)
      (pss_cons (ps_asg (pe_tup (pa_cons (pe_callTy (call_list_text rfl) (by rfl) B.list boot_list (pa_cons (pv 2) pa_nil)) (pa_cons pe_str pa_nil))) (pg_tup rfl (pgs_cons (pg_name (i := 3) scNm.nd rfl (.inr rfl)) (pgs_cons (pg_name (i := 4) scNm.nd rfl (.inr rfl)) pgs_nil))))
      (pss_cons (ps_setLc (i := 6) (te := tBM K "list" rPopAt (tVar 3) (tCons (tCall spTake [] C8.E0 (tCons (tVar 0) (tCons (tCB (Evl.rLenS K) (tCons (tVar 3) tNil)) tNil))) tNil)) (own := [("_law_turn", 5)]) (g := gName 5) (tt := tYes) rfl scNm.nd rfl rfl (sw_true rfl rfl rfl (by decide +kernel)) (pi_range1 (by rfl) B.range (pa_cons (pv 1) pa_nil)) (blkOk_by (N := NNm) (sc := defScope sNm) (by decide +kernel)) (fun _ _ _ _ _ => pg_name (i := 5) scNm.nd rfl (Or.inl rfl)) (fun _ _ _ _ _ => pts_nil)
          (fun _ _ _ _ _ => pe_bm PySem.F.plainAttrs_list PySem.F.slot_list_pop PySem.F.type_list_pop mt_popAt (pv 3) (pa_cons (C8.pe_c C1 hr (by decide) (by rfl) (pa_cons (pv 0) (pa_cons (pe_callB (r := Evl.rLenS K) call_len_seq (by rfl) B.len PySem.boot_len (pa_cons (pv 3) pa_nil)) pa_nil))) pa_nil)))
      (pss_cons (ps_for PassesOwn.never rfl (pi_range1 (by rfl) B.range (pa_cons (C8.pe_c C1 hr (by decide) (by rfl) (pa_cons (pv 0) (pa_cons pe_int pa_nil))) pa_nil)) (pg_name (i := 5) scNm.nd rfl (.inl rfl))
          (pss_one (ps_set (i := 4) scNm.nd rfl (Or.inr rfl) (pe_op op_add_str (pv 4) (C8.pe_c C2 hr (by decide) (by rfl) (pa_cons (pv 0) (pa_cons (pv 2) pa_nil)))))))
      (pss_cons (ps_set (i := 7) scNm.nd rfl (Or.inr rfl) (C8.pe_c C1 hr (by decide) (by rfl) (pa_cons (pv 0) (pa_cons (pe_op op_add (pe_callB call_len_str (by rfl) B.len PySem.boot_len (pa_cons (pv 4) pa_nil)) pe_int) pa_nil))))
      (pss_cons (ps_if (pt_cmpR op_eq (C8.pe_c C1 hr (by decide) (by rfl) (pa_cons (pv 0) (pa_cons pe_int pa_nil))) pe_int (nomark _))
          (pss_one (ps_ret (pe_lc (own := [("_law_sign", 8)]) (g := gName 8) (tt := tYes) rfl scNm.nd (pi_list (pv 6)) (blkOk_by (N := NNm) (sc := defScope sNm) (by decide +kernel)) (fun _ _ _ _ _ => pg_name (i := 8) scNm.nd rfl (Or.inl rfl)) (fun _ _ _ _ _ => pts_nil)
            (fun _ _ _ _ _ => pe_op op_add_str (pe_op op_add_str (pe_slice sl_str (pv 4) po_none (po_some (pv 7))) (pv 8)) (pe_slice sl_str (pv 4) (po_some (pv 7)) po_none))))) pss_nil)
      (pss_one (ps_ret (pe_lc (own := [("_law_sign", 8)]) (g := gName 8) (tt := tYes) rfl scNm.nd (pi_list (pv 6)) (blkOk_by (N := NNm) (sc := defScope sNm) (by decide +kernel)) (fun _ _ _ _ _ => pg_name (i := 8) scNm.nd rfl (Or.inl rfl)) (fun _ _ _ _ _ => pts_nil)
            (fun _ _ _ _ _ => pe_op op_add_str (pv 8) (pe_slice sl_str (pv 4) po_none (po_some (C8.pe_c C1 hr (by decide) (by rfl) (pa_cons (pv 0) (pa_cons (pe_op op_add (pe_callB call_len_str (by rfl) B.len PySem.boot_len (pa_cons (pv 4) pa_nil)) pe_int) pa_nil)))))))))))))), ?_⟩
    have hal : alph.length = 26 := by decide +kernel
    refine ⟨_, rfl, _, rfl, (by decide +kernel), fun L hL => ?_⟩
    have hLW : L ≠ W := fun e => by obtain ⟨d, z, e1, _⟩ := hW; rw [e, e1] at hL; cases hL
    refine ⟨(by show 2 ≤ sizeLine; decide), fun p1 hp1 => ⟨p1, _, rfl, SqT.of upd_same, rfl, _, _, rfl, _, _, rfl, ?_⟩⟩
    have s1 : Same H (upd (upd H L (.lst (alph.map chV))) p1 (.tup [.ref L, .str (S [])])) := (same_new hL).new hp1
    have hL1 : upd (upd H L (.lst (alph.map chV))) p1 (.tup [.ref L, .str (S [])]) L = some (.lst (alph.map chV)) := same_new hp1 _ _ upd_same
    refine ⟨rfl, _, rfl, 4, rfl, by decide, by decide, fun D hD => ?_⟩
    have hDW : D ≠ W := fun e => by obtain ⟨d, z, e1, _⟩ := hW; rw [e] at hD; exact absurd ((s1 _ _ e1).symm.trans hD) (by simp)
    have hDL : D ≠ L := fun e => by rw [e] at hD; exact absurd (hL1.symm.trans hD) (by simp)
    refine lc_range (n := 4) (fun i H' => WellAt H' W ∧ KeepD W H H' ∧ ∃ ls sg : List Nat, H' L = some (.lst (ls.map chV)) ∧ H' D = some (.lst (sg.map chV)) ∧ sg.length = i ∧ (sg ++ ls).Perm alph) ?_ (fun i H1 hi pv => ?_) (fun H1 pv => ?_)
    · refine ⟨?_, (KeepD.of (s1.new hD)), alph, [], ?_, upd_same, rfl, .refl _⟩
      · obtain ⟨d, z, e1, e2⟩ := hW
        exact ⟨d, z, s1.new hD _ _ e1, e2⟩
      · rw [upd_ne hDL.symm]; exact hL1
    · obtain ⟨w1, k1, ls, sg, e1, e2, e3, e4⟩ := pv
      have hls : ls.length = 26 - i := by
        have := e4.length_eq
        rw [List.length_append, hal] at this
        omega
      refine ⟨rfl, ?_⟩
      unfold tYes
      refine ifY rfl ?_
      refine ⟨_, rfl, .inl ⟨rfl, _, SqL.of e1⟩, _, rfl, _, rfl, L, _, rfl, .inl (SqL.of e1), ?_⟩
      rw [List.length_map]
      refine ⟨W, _, rfl, w1, by omega, by omega, fun H2 r k2 w2 hr => ?_⟩
      have hr' : r < ls.length := by omega
      have e1' := k2 _ _ e1 hLW
      have e2' := k2 _ _ e2 hDW
      refine ⟨L, ls.map chV, r, r, chV ls[r], rfl, rfl, e1', by omega, by omega, ?_, by simp [hr'], sg.map chV, ?_, ?_, ?_⟩
      · rw [List.length_map]
        exact seqIndex_of (by omega) (by omega)
      · rw [upd_ne hDL]; exact e2'
      · rw [List.length_map]; exact lt_line (by omega)
      · refine ⟨?_, ?_, ls.eraseIdx r, sg ++ [ls[r]], ?_, ?_, by simp [e3], ?_⟩
        · obtain ⟨d, z, q1, q2⟩ := w2
          exact ⟨d, z, by rw [upd_ne hDW.symm, upd_ne hLW.symm]; exact q1, q2⟩
        · intro b o hb hbW
          have n1 : b ≠ L := fun e => by rw [e, hL] at hb; cases hb
          have n2 : b ≠ D := fun e => by rw [e] at hb; exact absurd ((s1 _ _ hb).symm.trans hD) (by simp)
          rw [upd_ne n2, upd_ne n1]
          exact k2 _ _ (k1 _ _ hb hbW) hbW
        · rw [upd_ne hDL.symm, upd_same, map_erase]
        · rw [upd_same, List.map_append]; rfl
        · have p := erase_perm ls r ls[r] (by simp [hr'])
          rw [List.append_assoc]
          exact (p.append_left sg).trans e4
    · obtain ⟨w1, k1, ls, sg, e1, e2, e3, e4⟩ := pv
      have hsg : ∀ c ∈ sg, c ∈ alph := fun c hc => e4.mem_iff.mp (List.mem_append_left _ hc)
      have hnd : sg.Nodup := (List.nodup_append.mp (e4.nodup_iff.mpr (by decide +kernel))).1
      have hlen : ∀ {bs : List Nat}, (S bs).length = bs.length := fun {bs} => by show bs.toArray.size = _; simp
      refine ⟨_, rfl, W, _, rfl, w1, by omega, by omega, fun H2 r k2 w2 hr => ⟨r, rfl, ?_⟩⟩
      refine ⟨by omega, by omega, ?_⟩
      have r7 : r ≤ 7 := by omega
      refine for_range (n := r) (fun j σ H' => KeepD W H H' ∧ WellAt H' W ∧ H' D = some (.lst (sg.map chV)) ∧ ∃ (bs : List Nat) (v5 : Option V), σ = [some (.ref W), some (.int 4), some (.str sLetters), some (.ref L), some (.str (S bs)), v5, some (.ref D), none, none] ∧ bs.length = j ∧ ∀ x ∈ bs, x ∈ alph)
        ⟨k1.trans k2, w2, k2 _ _ e2 hDW, [], none, rfl, rfl, fun x hx => by cases hx⟩ (fun j σ H3 hj pv => ?_) (fun σ H3 pv => ?_)
      · obtain ⟨k3, w3, eD, bs, v5, rfl, hb, hba⟩ := pv
        refine ⟨_, rfl, _, rfl, _, rfl, W, _, rfl, w3, .inr ⟨sLetters, rfl, by decide +kernel, by decide +kernel, fun H4 c k4 w4 hc => ?_⟩⟩
        refine ⟨_, _, rfl, rfl, le_line (by rw [hlen]; show bs.length + 1 ≤ _; omega), ?_⟩
        refine ⟨k3.trans k4, w4, k4 _ _ eD hDW, bs ++ [c], some (.int (0 + (j : Int))), congrArg (fun z => [some (V.ref W), some (.int 4), some (.str sLetters), some (.ref L), some (.str z), some (.int (0 + (j : Int))), some (.ref D), none, none]) (S_cat' bs [c]), by simp [hb], fun x hx => ?_⟩
        · rcases List.mem_append.mp hx with h | h
          · exact hba x h
          · rw [List.mem_singleton.mp h]; exact hc
      · obtain ⟨k3, w3, eD, bs, v5, rfl, hb, hba⟩ := pv
        have hb7 : bs.length ≤ 7 := by omega
        refine ⟨_, rfl, _, rfl, _, rfl, le_line (by rw [hlen]; omega), _, _, rfl, rfl, W, _, rfl, w3, by rw [hlen]; omega, by rw [hlen]; omega, fun H4 m k4 w4 hm => ?_⟩
        rw [hlen] at hm
        have hm' : m ≤ bs.length := by omega
        have eD4 := k4 _ _ eD hDW
        have hT : (S bs).length ≤ sizeLine := le_line (by rw [hlen]; omega)
        have fin : ∀ (H6 : Hp) (p : Addr) (ns : List Str), KeepD W H H6 → H p = none → WellAt H6 W → H6 p = some (.lst (ns.map V.str)) → (∃ a, (∀ x ∈ a, x ∈ alph) ∧ Paired (NmR a) sg ns) → Q (.ref p) H6 := by
          rintro H6 p ns k6 hp w6 e6 ⟨a, ha, pr⟩
          obtain ⟨n1, n2⟩ := nm_all ha pr hnd hsg
          exact q H6 p ns k6 w6 hp e6 ((paired_len pr).symm.trans e3) n1 n2
        refine ⟨_, rfl, W, _, rfl, w4, by decide, by decide, fun H5 t k5 w5 ht => ⟨rfl, _, rfl, ?_⟩⟩
        have k05 : KeepD W H H5 := ((k3.trans k4).trans k5)
        have eD5 := k5 _ _ eD4 hDW
        have hbW : D ≠ W := hDW
        by_cases h0 : t = 0
        · have hz : V.int (t : Int) = V.int 0 := by rw [h0]; rfl
          refine ifY (decide_eq_true hz) ?_
          refine ⟨_, rfl, D, rfl, ⟨_, SqL.of eD5⟩, fun D2 hD2 => ?_⟩
          have g2 : H D2 = none := frz k05 hW w5 hD2
          refine lc_list (K := K) (a := D) (xs := sg.map chV) (fun i H' => WellAt H' W ∧ KeepD W H5 H' ∧ ∃ ns : List Str, H' D2 = some (.lst (ns.map V.str)) ∧ Paired (NmR (bs.take m)) (sg.take i) ns) (nmStart w5 hD2) (fun i H' _ pv => SqL.of (pv.2.1 _ _ eD5 hDW)) (fun i x H6 hx pv => ?_) (fun H6 pv => ?_)
          · obtain ⟨w6, k6, ns, e6, pr⟩ := pv
            obtain ⟨c, hc, rfl⟩ : ∃ c, sg[i]? = some c ∧ chV c = x := by
              rw [List.getElem?_map] at hx
              cases h : sg[i]? with
              | none => rw [h] at hx; cases hx
              | some c => rw [h] at hx; exact ⟨c, rfl, Option.some.inj hx⟩
            refine ⟨rfl, ?_⟩
            unfold tYes
            refine ifY rfl ?_
            have c1 : cutS (S bs) none (some (m : Int)) = S (bs.take m) := (C8.cutS_slice _ _ _).trans (SX.slice_to (by omega))
            have c2 : cutS (S bs) (some (m : Int)) none = S (bs.drop m) := (C8.cutS_slice _ _ _).trans (SX.slice_from (by omega))
            refine ⟨_, rfl, _, rfl, m, rfl, S bs, rfl, hT, ?_⟩
            rw [c1]
            refine ⟨_, rfl, _, _, rfl, rfl, ?_, ?_⟩
            · rw [hlen]
              show (bs.take m).length + 1 ≤ sizeLine
              rw [List.length_take]
              exact le_line (by omega)
            refine ⟨_, rfl, _, rfl, m, rfl, S bs, rfl, hT, ?_⟩
            rw [c2]
            have c3 : S (bs.take m) ++ (⟨#[c]⟩ : Str) = S (bs.take m ++ [c]) := S_cat' _ _
            refine ⟨_, _, rfl, rfl, ?_, ?_⟩
            · rw [c3, hlen, hlen, List.length_append, List.length_take, List.length_drop]
              exact le_line (by show _ + 1 + _ ≤ _; omega)
            · rw [c3, S_cat']
              refine nmStep hD2 (fun e => by obtain ⟨d, z, q1, _⟩ := w5; rw [e, q1] at hD2; cases hD2) e3 hc w6 k6 e6 pr ⟨bs.drop m, by rw [List.append_assoc]; rfl, ?_, fun x hx => hba x (List.mem_of_mem_drop hx)⟩
              rw [List.length_take, List.length_drop]
              omega
          · obtain ⟨w6, k6, ns, e6, pr⟩ := pv
            rw [List.length_map, List.take_length] at pr
            exact fin H6 D2 ns (k05.trans k6) g2 w6 e6 ⟨_, fun x hx => hba x (List.mem_of_mem_take hx), pr⟩
        · have hz : ¬ (V.int (t : Int) = V.int 0) := fun e => h0 (by have := V.int.inj e; omega)
          refine ifN (decide_eq_false hz) ?_
          refine ⟨_, rfl, D, rfl, ⟨_, SqL.of eD5⟩, fun D2 hD2 => ?_⟩
          have g2 : H D2 = none := frz k05 hW w5 hD2
          refine lc_list (K := K) (a := D) (xs := sg.map chV) (fun i H' => WellAt H' W ∧ KeepD W H5 H' ∧ ∃ ns : List Str, H' D2 = some (.lst (ns.map V.str)) ∧ Paired (NmR []) (sg.take i) ns) (nmStart w5 hD2) (fun i H' _ pv => SqL.of (pv.2.1 _ _ eD5 hDW)) (fun i x H6 hx pv => ?_) (fun H6 pv => ?_)
          · obtain ⟨w6, k6, ns, e6, pr⟩ := pv
            obtain ⟨c, hc, rfl⟩ : ∃ c, sg[i]? = some c ∧ chV c = x := by
              rw [List.getElem?_map] at hx
              cases h : sg[i]? with
              | none => rw [h] at hx; cases hx
              | some c => rw [h] at hx; exact ⟨c, rfl, Option.some.inj hx⟩
            refine ⟨rfl, ?_⟩
            unfold tYes
            refine ifY rfl ?_
            have hT' : ∀ k, (S (bs.take k)).length = (bs.take k).length := fun k => hlen
            refine ⟨_, rfl, _, rfl, _, rfl, _, rfl, _, rfl, hT, _, _, rfl, rfl, W, _, rfl, w6, by rw [hlen]; omega, by rw [hlen]; omega, fun H7 u k7 w7 hu => ⟨u, rfl, S bs, rfl, hT, _, _, rfl, rfl, ?_, ?_⟩⟩
            all_goals rw [hlen] at hu
            all_goals rw [show cutS (S bs) none (some (u : Int)) = S (bs.take u) from (C8.cutS_slice _ _ _).trans (SX.slice_to (by omega))]
            · rw [hT', List.length_take]
              exact le_line (by show 1 + _ ≤ _; omega)
            · have c3 : (⟨#[c]⟩ : Str) ++ S (bs.take u) = S ([c] ++ bs.take u) := S_cat' _ _
              rw [c3]
              have hDW2 : D2 ≠ W := fun e => by obtain ⟨d, z, q1, _⟩ := w5; rw [e, q1] at hD2; cases hD2
              refine nmStep hD2 hDW2 e3 hc w7 (k6.trans k7) (k7 _ _ e6 hDW2) pr ⟨bs.take u, rfl, ?_, fun x hx => hba x (List.mem_of_mem_take hx)⟩
              rw [List.length_take]
              show 0 + _ ≤ 7
              omega
          · obtain ⟨w6, k6, ns, e6, pr⟩ := pv
            rw [List.length_map, List.take_length] at pr
            exact fin H6 D2 ns (k05.trans k6) g2 w6 e6 ⟨_, (fun x hx => by cases hx), pr⟩
end
end Ky
end

section
set_option Elab.async false
set_option linter.all false
set_option maxRecDepth 100000
set_option maxHeartbeats 2000000
namespace Ky
open PySem PySem.Spec PyProof.Rows L2
/-! sorted names are told by their set -/
theorem cps_inj {a b : Str} (h : a.cps.toList = b.cps.toList) : a = b := by
  obtain ⟨⟨a⟩⟩ := a
  obtain ⟨⟨b⟩⟩ := b
  have e : a = b := h
  rw [e]
theorem le_anti {a b : Str} (h1 : ¬ (b.cps.toList < a.cps.toList)) (h2 : ¬ (a.cps.toList < b.cps.toList)) : a = b :=
  cps_inj (List.le_antisymm (List.not_lt.mp h1) (List.not_lt.mp h2))
theorem le_trans' {a b c : Str} (h1 : ¬ (b.cps.toList < a.cps.toList)) (h2 : ¬ (c.cps.toList < b.cps.toList)) : ¬ (c.cps.toList < a.cps.toList) := by
  exact List.not_lt.mpr (List.le_trans (List.not_lt.mp h1) (List.not_lt.mp h2))
def sortedT (ns : List Str) : Prop := ns.Pairwise fun a b => ¬ (b.cps.toList < a.cps.toList)
theorem rising_pw : ∀ {l : List Str} {p : Str}, risingS p l = true → sortedT (p :: l)
  | [], p, _ => List.pairwise_singleton _ _
  | x :: r, p, h => by
    have h' : (!ltCps x.cps.toList p.cps.toList && risingS x r) = true := h
    obtain ⟨h1, h2⟩ := Bool.and_eq_true_iff.mp h'
    have ih := rising_pw h2
    have hx : ¬ (x.cps.toList < p.cps.toList) := by
      rw [ltCps_eq] at h1
      exact of_decide_eq_false (by simpa using h1)
    refine List.pairwise_cons.mpr ⟨fun y hy => ?_, ih⟩
    rcases List.mem_cons.mp hy with e | e
    · rw [e]; exact hx
    · exact le_trans' hx ((List.pairwise_cons.mp ih).1 y e)
theorem sorted_pw : ∀ {l : List Str}, sortedS l = true → sortedT l
  | [], _ => .nil
  | x :: r, h => rising_pw h
theorem sorted_one : ∀ {l m : List Str}, l.Perm m → sortedT l → sortedT m → l = m
  | [], m, p, _, _ => by rw [List.nil_perm.mp p]
  | a :: l, [], p, _, _ => by cases List.perm_nil.mp p
  | a :: l, b :: m, p, h1, h2 => by
    obtain ⟨a1, a2⟩ := List.pairwise_cons.mp h1
    obtain ⟨b1, b2⟩ := List.pairwise_cons.mp h2
    have e : a = b := by
      rcases List.mem_cons.mp (p.mem_iff.mp (List.mem_cons_self (a := a))) with e | e
      · exact e
      rcases List.mem_cons.mp (p.mem_iff.mpr (List.mem_cons_self (a := b))) with e' | e'
      · exact e'.symm
      exact le_anti (a1 _ e') (b1 _ e)
    subst e
    rw [sorted_one ((List.perm_cons a).mp p) a2 b2]
theorem sortedN_names {ps : List (Str × Nat)} (h : sortedN ps) : sortedT (ps.map (·.1)) := List.Pairwise.map _ (fun _ _ h => h) h
/-! what a stand looks like -/
def txtAt (x : Snap) (z : Str) : Str := shT ((x.1.lookup z).getD 0)
def seenD (x : Snap) (k : Nat) (ns : List Str) : PyData := .list [.tuple (ns.map .str), .list (ns.map fun z => .str (txtAt x z)), .tuple (x.2.map fun c => .tuple [.str "single", .str c]), .int k]
theorem lookup_mem {z : Str} {i : Nat} : ∀ {l : List (Str × Nat)}, (l.map (·.1)).Nodup → (z, i) ∈ l → l.lookup z = some i
  | [], _, h => by cases h
  | (y, j) :: l, hn, h => by
    obtain ⟨h1, h2⟩ := List.nodup_cons.mp hn
    rcases List.mem_cons.mp h with e | e
    · cases e
      simp
    · have hne : ¬ z = y := fun e2 => h1 (e2 ▸ List.mem_map.mpr ⟨_, e, rfl⟩)
      have := lookup_mem h2 e
      rw [List.lookup_cons, show (z == y) = false from by simpa using hne]
      exact this
theorem txtAt_mem {x : Snap} (W : Wf x) {z : Str} {i : Nat} (h : (z, i) ∈ x.1) : txtAt x z = shT i := by
  unfold txtAt
  rw [lookup_mem W.nd h]
  rfl
theorem NameOk.strOk {z : Str} (h : NameOk z) : PyData.strOk z = true := by
  unfold PyData.strOk
  rw [Array.all_eq_true]
  intro i hi
  have hm : z.cps[i] ∈ z.cps.toList := Array.mem_toList_iff.mpr (Array.getElem_mem hi)
  have ha := h.2.2 _ hm
  have : ∀ c ∈ sLetters.cps.toList, decide (c < 0x110000) = true := by decide +kernel
  exact this _ ha
theorem seen_shp {x : Snap} {k : Nat} {ns : List Str} (W : Wf x) (hn : ∀ z ∈ ns, z ∈ x.1.map (·.1)) : Shp 3 (seenD x k ns) := by
  have hs : ∀ {z : Str} {n : Nat}, PyData.strOk z = true → Shp n (.str z) := fun h => ⟨h, Nat.zero_le _⟩
  have nmOk : ∀ z ∈ x.1.map (·.1), PyData.strOk z = true := fun z hz => by
    obtain ⟨i, hi⟩ := mem_names hz
    exact (W.nm _ hi).strOk
  refine Shp.list (n := 2) fun d hd => ?_
  simp only [List.mem_cons, List.mem_singleton, List.not_mem_nil, or_false] at hd
  rcases hd with rfl | rfl | rfl | rfl
  · refine Shp.tuple (n := 1) fun d hd => ?_
    obtain ⟨z, hz, rfl⟩ := List.mem_map.mp hd
    exact hs (nmOk z (hn z hz))
  · refine Shp.list (n := 1) fun d hd => ?_
    obtain ⟨z, hz, rfl⟩ := List.mem_map.mp hd
    obtain ⟨i, hi⟩ := mem_names (hn z hz)
    rw [txtAt_mem W hi]
    exact hs (sh_str (W.i8 _ hi))
  · refine Shp.tuple (n := 1) fun d hd => ?_
    obtain ⟨c, hc, rfl⟩ := List.mem_map.mp hd
    refine Shp.tuple (n := 0) fun d hd => ?_
    simp only [List.mem_cons, List.mem_singleton, List.not_mem_nil, or_false] at hd
    rcases hd with rfl | rfl
    · exact hs (by decide +kernel)
    · exact hs (nmOk c (W.cl c hc))
  · exact Shp.int _
theorem dp_strs {K : PySem.W.Frag} {H : Hp} : ∀ (ns : List Str), DpAll K H (ns.map V.str) (ns.map PyData.str)
  | [] => .nil
  | z :: ns => .cons (.str z) (dp_strs ns)
theorem dp_claims {K : PySem.W.Frag} {H : Hp} : ∀ {as : List Addr} {cs : List Str}, Paired (ClaimAt H) as cs → DpAll K H (as.map V.ref) (cs.map fun c => .tuple [.str "single", .str c])
  | _, _, .nil => .nil
  | _, _, .cons h t => .cons (.tup (SqT.of h) (.cons (.str _) (.cons (.str _) .nil))) (dp_claims t)
theorem sqL_same {K : PySem.W.Frag} {H H' : Hp} (s : Same H H') {a : Addr} {xs : List V} (h : SqL K H a xs) : SqL K H' a xs := by
  rcases h with (h | ⟨o, h⟩) | h
  · exact .inl (.inl (s _ _ h))
  · exact .inl (.inr ⟨o, s _ _ h⟩)
  · exact .inr h
theorem Dp_same {K : PySem.W.Frag} {H H' : Hp} (s : Same H H') : ∀ {v : V} {d : PyData}, Dp K H v d → Dp K H' v d := by
  intro v d h
  induction h using Dp.rec (motive_2 := fun xs ds _ => DpAll K H' xs ds) with
  | non => exact .non
  | bl b => exact .bl b
  | int i => exact .int i
  | str x => exact .str x
  | lst h1 _ ih => exact .lst (sqL_same s h1) ih
  | tup h1 _ ih => exact .tup (s.tup h1) ih
  | nil => exact .nil
  | cons _ _ i1 i2 => exact .cons i1 i2
end Ky
end

section
set_option Elab.async false
set_option linter.all false
set_option maxRecDepth 100000
set_option maxHeartbeats 2000000
namespace Ky
open PySem PySem.Spec PyProof.Rows L2
theorem passE0 {X : Cx} : Passes (L2.CX X.prog X.w) X C8.E0 := fun _ _ _ _ e s' _ h => by
  obtain ⟨a, B, H', cls, d, _, _, _, _, _, _, _, hE⟩ := h
  exact hE.elim
theorem DeskAt.same {CT CS CD D : Addr} {H H' : Hp} {st : List Snap} (h : DeskAt CT CS CD H D st) (s : Same H H') : DeskAt CT CS CD H' D st := by
  obtain ⟨dx, sh, h1, h2⟩ := h
  exact ⟨dx, sh, s _ _ h1, h2.keep (KeepF.of s)⟩
/-- a stand of the law: a list of a dict of texts and a list of claims -/
def dOf (x : Snap) : List (Key × V) := x.1.map fun ni => (Sum.inr ni.1, V.str (shT ni.2))
def StandAt (H : Hp) (a : Addr) (x : Snap) : Prop := ∃ (d c : Addr) (qs : List Addr), H a = some (.lst [.ref d, .ref c]) ∧ H d = some (.dK (dOf x)) ∧ H c = some (.lst (qs.map V.ref)) ∧ Paired (ClaimAt H) qs x.2
theorem StandAt.same {H H' : Hp} {a : Addr} {x : Snap} (h : StandAt H a x) (s : Same H H') : StandAt H' a x := by
  obtain ⟨d, c, qs, h1, h2, h3, h4⟩ := h
  exact ⟨d, c, qs, s _ _ h1, s _ _ h2, s _ _ h3, paired_mono h4 fun _ _ _ e => s _ _ e⟩
theorem dOf_pair (x : Snap) : Paired (fun (kv : Key × V) (ni : Str × Nat) => kv.1 = Sum.inr ni.1 ∧ kv.2 = V.str (shT ni.2)) (dOf x) x.1 := by
  unfold dOf
  generalize x.1 = l
  induction l with
  | nil => exact .nil
  | cons a l ih => exact .cons ⟨rfl, rfl⟩ ih
theorem dOf_keys (x : Snap) : (dOf x).map (·.1) = (x.1.map (·.1)).map Sum.inr := by
  unfold dOf
  rw [List.map_map, List.map_map]
  rfl
theorem dOf_get {x : Snap} (W : Wf x) {z : Str} {i : Nat} (h : (z, i) ∈ x.1) : valV (dOf x) (Sum.inr z) = some (.str (shT i)) := by
  obtain ⟨v, h1, h2⟩ := valV_pair (R := fun v i => v = V.str (shT i)) (dOf_pair x) W.nd h
  rw [h1, h2]
theorem acc_texts {x : Snap} : ∀ {zs : List Str} {acc : List V}, Paired (fun a b => ∃ z, a = V.str z ∧ b = V.str (txtAt x z)) (zs.map V.str) acc → acc = zs.map fun z => V.str (txtAt x z)
  | [], _, .nil => rfl
  | z :: zs, _, .cons a b => by
    obtain ⟨z', h1, h2⟩ := a
    rw [acc_texts b, h2, List.map_cons, V.str.inj h1]
section
variable {P : Program} {w : World} {K : PySem.W.Frag} {mg : Str → Option Value} {base : Heap} {f CT CS CD CU pN gN pC gC pG gG pT gT : Addr} {fd fdN fdC fdG fdT : FuncData}
theorem scSeen : FnScope ["_law_desk", "_law_name"] ["_law_desk"] (defScope sSeen) := ⟨rfl, rfl, rfl, by decide +kernel, rfl, by decide +kernel, by decide +kernel⟩
def spSeen (K : PySem.W.Frag) (CT CS CD : Addr) : Sp := fun vs H Q _ => ∃ (D : Addr) (x : Snap) (r : List Snap), vs = [.ref D] ∧ DeskAt CT CS CD H D (x :: r) ∧ Wf x ∧ x.1.length ≤ 1000 ∧
  ∀ (H' : Hp) (p : Addr) (ns : List Str), Same H H' → ns.Perm (x.1.map (·.1)) → sortedT ns → Dp K H' (.ref p) (seenD x r.length ns) → Q (.ref p) H'
theorem ok_seen (F : L2.Fun K "_law_seen" "_law_seen" sSeen f fd) (hm : mg "_law_seen" = some (.ref f)) (T : DkT K mg CT CS CD) (TT : TbT K mg CT)
    (hpN : PropOf K CD "names" pN gN) (bN : L2.Binds K fdN ["self"] []) (FN : FnOk P w K mg base L2.CX0 1 gN fdN ["self"] (spNames CT CS CD))
    (hpC : PropOf K CD "claims" pC gC) (bC : L2.Binds K fdC ["self"] []) (FC : FnOk P w K mg base L2.CX0 1 gC fdC ["self"] (spClaims CT CS CD))
    (hpG : PropOf K CD "changes" pG gG) (bG : L2.Binds K fdG ["self"] []) (FG : FnOk P w K mg base L2.CX0 1 gG fdG ["self"] (spChanges CT CS CD))
    (hpT : PropOf K CT "text" pT gT) (bT : L2.Binds K fdT ["self"] []) (FT : FnOk P w K mg base L2.CX0 1 gT fdT ["self"] (spText CT))
    (MT : MtX (L2.CX P w) P w K mg base 5 CD "thing" (spThing CT CS CD)) : C8.Cal P w K mg base 6 "_law_seen" (spSeen K CT CS CD) [] := by
  refine cal_mk F hm scSeen (fun _ _ _ _ _ _ us hl => match us, hl with | [_], _ => rfl) (fun vs H Q E h => ?_) (fun cdv A outer s H vs Q E hr h => ?_)
  · obtain ⟨D, x, r, rfl, _⟩ := h
    rfl
  · obtain ⟨D, x, r, rfl, hDk, hW, hlen, q⟩ := h
    refine ⟨_, pss_one (ps_ret (pe_lst (pa_cons (pe_prop (pv 0) T.cl hpN FN (hr.mono (by decide)) bN .nil pass0 (by rfl))
      (pa_cons (pe_lc (te := tProp CT (spText CT) [] C8.E0 (tMeth CD "thing" (spThing CT CS CD) [] C8.E0 (tVar 0) (tCons (tVar 1) tNil))) (own := [("_law_name", 1)]) (g := gName 1) (tt := tYes) rfl scSeen.nd
          (pi_tup (pe_prop (pv 0) T.cl hpN FN (hr.mono (by decide)) bN .nil pass0 (by rfl))) (blkOk_by (N := ["_law_desk", "_law_name"]) (sc := defScope sSeen) (by decide +kernel)) (fun _ _ _ _ _ => pg_name (i := 1) scSeen.nd rfl (.inl rfl)) (fun _ _ _ _ _ => pts_nil)
          (fun _ _ _ _ _ => pe_prop (pe_mX MT hr (by decide) (pv 0) passE0 (pa_cons (pv 1) pa_nil)) TT.cl hpT FT (hr.mono (by decide)) bT .nil pass0 (by rfl)))
      (pa_cons (pe_prop (pv 0) T.cl hpC FC (hr.mono (by decide)) bC .nil pass0 (by rfl))
      (pa_cons (pe_prop (pv 0) T.cl hpG FG (hr.mono (by decide)) bG .nil pass0 (by rfl)) pa_nil)))))), ?_⟩
    obtain ⟨dx, sh, hD, hSh⟩ := id hDk
    refine ⟨_, rfl, D, dx, _, rfl, hD, D, x, r, rfl, hDk, hlen, fun H1 p1 ps1 s1 pm1 so1 e1 => ?_⟩
    refine ⟨_, rfl, D, dx, _, rfl, s1 _ _ hD, D, x, r, rfl, hDk.same s1, hlen, fun H2 p2 ps2 s2 pm2 so2 e2 => ⟨p2, rfl, ⟨_, SqT.of e2⟩, fun D2 hD2 => ?_⟩⟩
    have s12 := s1.trans s2
    have nm : ps1.map (·.1) = ps2.map (·.1) := sorted_one ((pm1.map _).trans (pm2.map _).symm) (sortedN_names so1) (sortedN_names so2)
    refine lcM (walk_tup (K := K) (a := p2) (xs := namesV ps2)) (fun a b _ => ∃ z, a = .str z ∧ b = .str (txtAt x z)) (fun _ _ _ _ r _ => r) (fun H1 s1 => s1.tup (SqT.of e2)) hD2 ?_ (fun i y H3 Ny hx s3 _ hy => ?_) (fun H3 acc s3 hacc pr => ?_)
    · show (ps2.map _).length ≤ _
      rw [List.length_map, pm2.length_eq]
      omega
    · obtain ⟨⟨z, j⟩, hm, rfl⟩ : ∃ ni ∈ ps2, V.str ni.1 = y := List.mem_map.mp (List.mem_of_getElem? hx)
      have hm' : (z, j) ∈ x.1 := pm2.mem_iff.mp hm
      refine ⟨rfl, ?_⟩
      refine ⟨_, rfl, D, dx, _, rfl, s3 _ _ (s12 _ _ hD), df_no _ (by decide +kernel), _, rfl, D, z, j, x, r, rfl, hW.nm _ hm', (hDk.same s12).same s3, hlen, hW.nd, hm', fun H4 t s4 tb => ?_⟩
      obtain ⟨dt, rr, ht, hrr⟩ := id tb
      exact ⟨t, dt, _, rfl, ht, t, _, rfl, tb, (sh_at (hW.i8 _ hm')).2.2.2, fun H5 s5 => hy _ _ (s4.trans s5) ⟨z, rfl, by rw [sh_txt (hW.i8 _ hm'), txtAt_mem hW hm']⟩⟩
    · have s13 := s12.trans s3
      have e : acc = (ps2.map (·.1)).map fun z => V.str (txtAt x z) := by
        have e : namesV ps2 = (ps2.map (·.1)).map V.str := by rw [List.map_map]; rfl
        rw [e] at pr
        exact acc_texts pr
      subst e
      refine ⟨_, rfl, D, dx, _, rfl, s13 _ _ hD, D, x, r, rfl, hDk.same s13, fun g hg => ?_⟩
      refine ⟨_, rfl, D, dx, _, rfl, s13 _ _ hD, D, x, r, rfl, hDk.same s13, (by show 4 ≤ sizeLine; decide), fun p hp => ?_⟩
      have s4 : Same H3 (upd H3 p (.lst [.ref p1, .ref D2, .ref g, .int r.length])) := same_new hp
      obtain ⟨as, hg1, hg2⟩ := hg.same s4
      refine q _ p (ps1.map (·.1)) (s13.trans s4) (pm1.map _) (sortedN_names so1) (.lst (SqL.of upd_same) (.cons (.tup (SqT.of (s4 _ _ (s3 _ _ (s2 _ _ e1)))) ?_) (.cons (.lst (SqL.of (s4 _ _ hacc)) ?_) (.cons (.tup (SqT.of hg1) (dp_claims hg2)) (.cons (.int _) .nil)))))
      · have e : namesV ps1 = (ps1.map (·.1)).map V.str := by rw [List.map_map]; rfl
        rw [e]
        exact dp_strs _
      · rw [nm]
        have e1 : ∀ (zs : List Str), zs.map (fun z => V.str (txtAt x z)) = (zs.map (txtAt x)).map V.str := fun zs => by rw [List.map_map]; rfl
        have e2 : ∀ (zs : List Str), zs.map (fun z => PyData.str (txtAt x z)) = (zs.map (txtAt x)).map PyData.str := fun zs => by rw [List.map_map]; rfl
        rw [e1, e2]
        exact dp_strs _
theorem scStand : FnScope ["_law_stand_here", "_law_depth", "_law_texts", "_law_claims", "_law_names_here", "_law_name"] ["_law_stand_here", "_law_depth"] (defScope sStand) := ⟨rfl, rfl, rfl, by decide +kernel, rfl, by decide +kernel, by decide +kernel⟩
def spStand (K : PySem.W.Frag) : Sp := fun vs H Q _ => ∃ (a : Addr) (x : Snap) (k : Nat), vs = [.ref a, .int k] ∧ StandAt H a x ∧ Wf x ∧ x.1.length < 64 ∧
  ∀ (H' : Hp) (p : Addr) (ns : List Str), Same H H' → ns.Perm (x.1.map (·.1)) → sortedT ns → Dp K H' (.ref p) (seenD x k ns) → Q (.ref p) H'
theorem ok_stand (F : L2.Fun K "_law_stand" "_law_stand" sStand f fd) (hm : mg "_law_stand" = some (.ref f)) (B : Bt mg) : C8.Cal P w K mg base 1 "_law_stand" (spStand K) [] := by
  refine cal_mk F hm scStand (fun _ _ _ _ _ _ us hl => match us, hl with | [_, _], _ => rfl) (fun vs H Q E h => ?_) (fun cdv A outer s H vs Q E hr h => ?_)
  · obtain ⟨a, x, k, rfl, _⟩ := h
    rfl
  · obtain ⟨a, x, k, rfl, hS, hW, hlen, q⟩ := h
    refine ⟨_, pss_cons (ps_asg (pv 0) (pg_unl rfl (pgs_cons (pg_name (i := 2) scStand.nd rfl (.inr rfl)) (pgs_cons (pg_name (i := 3) scStand.nd rfl (.inl rfl)) pgs_nil))))
      (pss_cons (ps_set (i := 4) scStand.nd rfl (Or.inl rfl) (pe_callTy call_tupleF (by rfl) B.tuple boot_tuple (pa_cons (pe_callB (call_sortedD rfl) (by rfl) B.sorted boot_sorted (pa_cons (pv 2) pa_nil)) pa_nil)))
      (pss_one (ps_ret (pe_lst (pa_cons (pv 4)
        (pa_cons (pe_lc (te := tDGet (tVar 2) (tVar 5)) (own := [("_law_name", 5)]) (g := gName 5) (tt := tYes) rfl scStand.nd (pi_tup (pv 4)) (blkOk_by (N := ["_law_stand_here", "_law_depth", "_law_texts", "_law_claims", "_law_names_here", "_law_name"]) (sc := defScope sStand) (by decide +kernel)) (fun _ _ _ _ _ => pg_name (i := 5) scStand.nd rfl (.inl rfl)) (fun _ _ _ _ _ => pts_nil)
          (fun _ _ _ _ _ => pe_dget (hu_of hr) (pv 2) (pv 5) (fun _ _ => rfl)))
        (pa_cons (pe_callTy call_tupleF (by rfl) B.tuple boot_tuple (pa_cons (pv 3) pa_nil)) (pa_cons (pv 1) pa_nil)))))))), ?_⟩
    obtain ⟨d, c, qs, h1, h2, h3, h4⟩ := id hS
    refine ⟨_, rfl, a, _, rfl, SqL.of h1, rfl, _, _, rfl, _, _, rfl, rfl, ?_⟩
    refine ⟨_, rfl, d, _, x.1.map (·.1), rfl, .of h2, dOf_keys x, by rw [List.length_map]; exact hlen, fun ys p0 pm so hp0 => ?_⟩
    refine ⟨p0, _, rfl, SqL.of upd_same, fun p1 o1 hp1 ho1 => ?_⟩
    have s1 : Same H (upd (upd H p0 (.lst (ys.map V.str))) p1 (.frz o1 (.tup (ys.map V.str)))) := (same_new hp0).new hp1
    have e1 : SqT K (upd (upd H p0 (.lst (ys.map V.str))) p1 (.frz o1 (.tup (ys.map V.str)))) p1 (ys.map V.str) := .inl (.inr ⟨o1, upd_same⟩)
    refine ⟨_, rfl, _, rfl, p1, rfl, ⟨_, e1⟩, fun D2 hD2 => ?_⟩
    refine lcM (walk_tup (K := K) (a := p1) (xs := ys.map V.str)) (fun a b _ => ∃ z, a = .str z ∧ b = .str (txtAt x z)) (fun _ _ _ _ r _ => r) (fun H1 s1 => s1.tup e1) hD2 ?_ (fun i y H3 Ny hx s3 _ hy => ?_) (fun H3 acc s3 hacc pr => ?_)
    · rw [List.length_map, pm.length_eq, List.length_map]
      omega
    · obtain ⟨z, hm, rfl⟩ := List.mem_map.mp (List.mem_of_getElem? hx)
      obtain ⟨j, hj⟩ := mem_names (pm.mem_iff.mp hm)
      have gg := DGet.k (k := Sum.inr z) (s3 _ _ (s1 _ _ h2))
      rw [dOf_get hW hj] at gg
      exact ⟨rfl, _, rfl, _, rfl, d, _, rfl, gg, hy _ _ (Same.refl _) ⟨z, rfl, by rw [txtAt_mem hW hj]⟩⟩
    · have s13 := s1.trans s3
      have e : acc = ys.map fun z => V.str (txtAt x z) := acc_texts pr
      subst e
      have h3' := s13 _ _ h3
      refine ⟨_, rfl, c, _, rfl, SqL.of h3', fun p2 o2 hp2 ho2 => ?_⟩
      refine ⟨_, rfl, (by show 4 ≤ sizeLine; decide), fun p hp => ?_⟩
      have s4 := (same_new (o := .frz o2 (.tup (qs.map V.ref))) hp2).new (o := .lst [.ref p1, .ref D2, .ref p2, .int k]) hp
      have h4' := paired_mono h4 fun _ _ _ e => (s13.trans s4) _ _ e
      refine q _ p ys (s13.trans s4) pm (sorted_pw so) (.lst (SqL.of upd_same) (.cons (.tup (s4.tup (s3.tup e1)) (dp_strs _)) (.cons (.lst (SqL.of (s4 _ _ hacc)) ?_) (.cons (.tup (.inl (.inr ⟨o2, same_new hp _ _ upd_same⟩)) (dp_claims h4')) (.cons (.int _) .nil)))))
      have e1 : ∀ (zs : List Str), zs.map (fun z => V.str (txtAt x z)) = (zs.map (txtAt x)).map V.str := fun zs => by rw [List.map_map]; rfl
      have e2 : ∀ (zs : List Str), zs.map (fun z => PyData.str (txtAt x z)) = (zs.map (txtAt x)).map PyData.str := fun zs => by rw [List.map_map]; rfl
      rw [e1, e2]
      exact dp_strs _
end
end Ky
end

section
set_option Elab.async false
set_option linter.all false
set_option maxRecDepth 100000
set_option maxHeartbeats 2000000
namespace Ky
open PySem PySem.Spec PyProof.Rows L2 LamX
/-- _law_ended(lambda: ..) -/
theorem pe_lamE {X : Cx} {T : List (Addr × Str)} {CB CU CI CN gE c Pl : Addr} {fdE : FuncData} {k : Nat} {params : Arguments} {body : Expr} {scope : Scope} {t : XK → TE} {p lpos pos : Pos}
    (Fe : L2.Fun X.K "_law_ended" "_law_ended" sEnded gE fdE) (hm : X.mg "_law_ended" = some (.ref gE)) (XT : ExT X.K X.mg CB CU CI CN) (hg : Gl X "_law_ended")
    (TB : LamX.TabB X.base X.mg c Pl) (hcode : X.env.code = .ref c) (hmT : (Pl, X.env.qual ++ "<lambda>") ∈ T) (hu : ∀ p ∈ T, p.1 = Pl → p.2 = X.env.qual ++ "<lambda>") (hr : Room (k + 2) X.A) (L : LamX.LamS X.env.scope scope) (hdef : defaultsOf params X.env = ([], []))
    (hbind : ∀ (q : Str) (cl : List (Str × Addr)) (pm cv ctv : Value), bindArgs (PySem.W.kla_fn "<lambda>" q params body scope cl pm cv ctv) ⟨[], []⟩ = pure [])
    (hbody : ∀ (A : Around) (outer : List Env) (s : Shared) (H : Hp) (E : XK) (f c' : Addr), Room k (A.deeper (LamX.lamEnv X scope s.heap.objs.size f c')) → PE (LamX.lamCx X A outer s H E scope f c') body (t E)) :
    PE X (.Call (.Name "_law_ended" p) [.Lambda params body scope lpos] [] pos) (LamX.tLam T (TTe CB CU CI CN) t) := by
  have bE : L2.Binds X.K fdE ["_law_act"] [] := Fe.binds fun _ _ _ _ _ _ us hl => match us, hl with | [_], _ => rfl
  obtain ⟨oc, od, kV, doc, pm, an, cdv, ct, osl, rfl, lk, hc⟩ := Fe.ex
  exact LamX.pe_lamcall hg hm Fe.kp lk hc bE scEnded rfl (Or.inl rfl) (ended_gives XT) TB hcode hmT hu hr L hdef hbind hbody
end Ky
end

section
set_option Elab.async false
set_option linter.all false
set_option maxRecDepth 100000
set_option maxHeartbeats 400000
namespace Ky
open PySem PySem.Spec PyProof.Rows L2 LamX
section
variable {P : Program} {w : World} {K : PySem.W.Frag} {mg : Str → Option Value} {base : Heap} {f CT CS CD CB CU CI CN gE fR pR : Addr} {fd fdE fdR : FuncData} {mcT : Value}
/-- .. within a def -/
theorem pe_lamF {q : Str} {N : List Str} {sc : Scope} {A : Around} {outer : List Env} {s : Shared} {H : Hp} {E : XK} {T : List (Addr × Str)} {c Pl : Addr} {k : Nat} {params : Arguments} {body : Expr} {scope : Scope} {t : XK → TE} {p lpos pos : Pos}
    (Fe : L2.Fun K "_law_ended" "_law_ended" sEnded gE fdE) (hm : mg "_law_ended" = some (.ref gE)) (XT : ExT K mg CB CU CI CN) (hg : sc.names.lookup ("_law_ended" : Str) = some NameKind.globalImplicit)
    (TB : TabB base mg c Pl) (hmT : (Pl, lamQ q) ∈ T) (hu : ∀ p ∈ T, p.1 = Pl → p.2 = lamQ q) (hr : Room (k + 2) (A.deeper (envOfC q sc s.heap.objs.size f (.ref c)))) (hS : lamSB sc scope = true) (hdef : defaultsOf params (cxOf L2.CX0 P w K mg base N q sc f (.ref c) A outer s H E).nox.env = ([], []))
    (hbind : ∀ (q : Str) (cl : List (Str × Addr)) (pm cv ctv : Value), bindArgs (PySem.W.kla_fn "<lambda>" q params body scope cl pm cv ctv) ⟨[], []⟩ = pure [])
    (hbody : ∀ (A' : Around) (outer' : List Env) (s' : Shared) (H' : Hp) (E' : XK) (f' c' : Addr), Room k (A'.deeper (lamEnv (cxOf L2.CX0 P w K mg base N q sc f (.ref c) A outer s H E).nox scope s'.heap.objs.size f' c')) → PE (lamCx (cxOf L2.CX0 P w K mg base N q sc f (.ref c) A outer s H E).nox A' outer' s' H' E' scope f' c') body (t E')) :
    PE (cxOf L2.CX0 P w K mg base N q sc f (.ref c) A outer s H E).nox (.Call (.Name "_law_ended" p) [.Lambda params body scope lpos] [] pos) (tLam T (TTe CB CU CI CN) t) :=
  pe_lamE (X := (cxOf L2.CX0 P w K mg base N q sc f (.ref c) A outer s H E).nox) Fe hm XT hg TB rfl hmT hu hr (lamS_by hS) hdef hbind hbody
end
end Ky
end

section
set_option Elab.async false
set_option linter.all false
set_option maxRecDepth 100000
set_option maxHeartbeats 400000
namespace Ky
open PySem PySem.Spec PyProof.Rows L2 LamX
/-! what the law's steps keep -/
/-- all but the well, the desk, and the tables -/
def KW (W D : Addr) (H H' : Hp) : Prop := ∀ b o, H b = some o → b ≠ W → b ≠ D → (∀ ps, o ≠ .tbl ps) → H' b = some o
section
variable {W D CT CS CD : Addr} {H H1 H' : Hp}
theorem KW.trans (a : KW W D H H1) (b : KW W D H1 H') : KW W D H H' := fun c o e h1 h2 h3 => b c o (a c o e h1 h2 h3) h1 h2 h3
theorem KW.of (s : Same H H') : KW W D H H' := fun b o e _ _ _ => s b o e
theorem KW.ofW (k : KeepD W H H') : KW W D H H' := fun b o e h _ _ => k b o e h
theorem KW.ofD (k : KeepD D H H') : KW W D H H' := fun b o e _ h _ => k b o e h
theorem KW.ofX (k : KeepX D H H') : KW W D H H' := fun b o e _ h h2 => k b o e h h2
theorem KW.ofN (k : ExtN H H') : KW W D H H' := fun b o e _ _ h => k b o e h
/-- the tables stay where they and the code objects do -/
theorem tabs_by {T : List (Addr × Str)} (t : Tabs T H) (k : ∀ b o, H b = some o → ((∃ ps, o = .tbl ps) ∨ ∃ c q, o = CodeO c q) → H' b = some o) : Tabs T H' := fun p hp => by
  obtain ⟨ps, h1, h2, h3⟩ := t p hp
  refine ⟨ps, k _ _ h1 (.inl ⟨_, rfl⟩), h2, fun pos cv h => ?_⟩
  obtain ⟨c, e1, e2⟩ := h3 pos cv h
  exact ⟨c, e1, k _ _ e2 (.inr ⟨_, _, rfl⟩)⟩
theorem tabs_W {T : List (Addr × Str)} (t : Tabs T H) (w : WellAt H W) (k : KeepD W H H') : Tabs T H' := tabs_by t fun b o e h => k b o e fun z => by
  obtain ⟨d, s, e1, _⟩ := w
  rw [z, e1] at e
  cases e
  rcases h with ⟨_, h⟩ | ⟨_, _, h⟩ <;> cases h
theorem tabs_D {T : List (Addr × Str)} {C dx : Addr} {fs : List (Str × V)} (t : Tabs T H) (w : H D = some (.ins C dx fs)) (k : KeepD D H H') : Tabs T H' := tabs_by t fun b o e h => k b o e fun z => by
  rw [z, w] at e
  cases e
  rcases h with ⟨_, h⟩ | ⟨_, _, h⟩ <;> cases h
theorem desk_W {st : List Snap} (h : DeskAt CT CS CD H D st) (w : WellAt H W) (k : KeepD W H H') : DeskAt CT CS CD H' D st := by
  obtain ⟨dx, s, h1, h2⟩ := h
  obtain ⟨d, z, e1, _⟩ := w
  refine ⟨dx, s, k _ _ h1 (fun e => by rw [e, e1] at h1; cases h1), h2.keep fun b o e f => k b o e fun z => ?_⟩
  rw [z, e1] at e
  cases e
  exact f
theorem desk_N {st : List Snap} (h : DeskAt CT CS CD H D st) (k : ExtN H H') : DeskAt CT CS CD H' D st := by
  obtain ⟨dx, s, h1, h2⟩ := h
  refine ⟨dx, s, k _ _ h1 (fun _ z => by cases z), h2.keep fun b o e f => k b o e fun ps z => ?_⟩
  rw [z] at f
  exact f
theorem well_KW {H H' : Hp} (w : WellAt H W) (k : ∀ o, H W = some o → (∃ xs, o = .lst xs) → H' W = some o) : WellAt H' W := by
  obtain ⟨d, s, e1, e2⟩ := w
  exact ⟨d, s, k _ e1 ⟨_, rfl⟩, e2⟩
theorem well_same (w : WellAt H W) (s : Same H H') : WellAt H' W := well_KW w fun o e _ => s _ _ e
theorem well_N (w : WellAt H W) (k : ExtN H H') : WellAt H' W := well_KW w fun o e ⟨_, h⟩ => k _ _ e fun ps z => by rw [h] at z; cases z
theorem well_D (w : WellAt H W) (hne : W ≠ D) (k : KeepD D H H') : WellAt H' W := well_KW w fun o e _ => k _ _ e hne
theorem well_X (w : WellAt H W) (hne : W ≠ D) (k : KeepX D H H') : WellAt H' W := well_KW w fun o e ⟨_, h⟩ => k _ _ e hne fun ps z => by rw [h] at z; cases z
theorem desk_ne {st : List Snap} (h : DeskAt CT CS CD H D st) (w : WellAt H W) : W ≠ D := fun e => by
  obtain ⟨dx, s, h1, _⟩ := h
  obtain ⟨d, z, e1, _⟩ := w
  rw [← e, e1] at h1
  cases h1
/-- a list of references is not the well, nor the desk -/
theorem StandAt.kw {st : List Snap} {a : Addr} {x : Snap} (h : StandAt H a x) (hD : DeskAt CT CS CD H D st) (w : WellAt H W) (k : KW W D H H') : StandAt H' a x := by
  obtain ⟨d, c, qs, h1, h2, h3, h4⟩ := h
  obtain ⟨dx, s, g1, _⟩ := hD
  obtain ⟨dd, z, e1, _⟩ := w
  refine ⟨d, c, qs, k _ _ h1 (fun e => ?_) (fun e => ?_) (fun _ z => by cases z), k _ _ h2 (fun e => ?_) (fun e => ?_) (fun _ z => by cases z), k _ _ h3 (fun e => ?_) (fun e => ?_) (fun _ z => by cases z), paired_mono h4 fun q _ _ hq => k _ _ hq (fun e => ?_) (fun e => ?_) (fun _ z => by cases z)⟩
  · rw [e, e1] at h1; cases h1
  · rw [e, g1] at h1; cases h1
  · rw [e, e1] at h2; cases h2
  · rw [e, g1] at h2; cases h2
  · rw [e, e1] at h3
    cases qs with
    | nil => simp at h3
    | cons q qs => simp at h3
  · rw [e, g1] at h3; cases h3
  · have hq' : H q = some (.tup _) := hq
    rw [e, e1] at hq'; cases hq'
  · have hq' : H q = some (.tup _) := hq
    rw [e, g1] at hq'; cases hq'
end
theorem StandAt.at {H : Hp} {a d c : Addr} {x : Snap} (h : StandAt H a x) (e : H a = some (.lst [.ref d, .ref c])) : ∃ qs : List Addr, H d = some (.dK (dOf x)) ∧ H c = some (.lst (qs.map V.ref)) ∧ Paired (ClaimAt H) qs x.2 := by
  obtain ⟨d', c', qs, h1, h2, h3, h4⟩ := h
  rw [h1] at e
  have e1 := HO.lst.inj (Option.some.inj e)
  have e2 := V.ref.inj (List.cons.inj e1).1
  have e3 := V.ref.inj (List.cons.inj (List.cons.inj e1).2).1
  subst e2 e3
  exact ⟨qs, h2, h3, h4⟩
theorem stand_ne {H : Hp} {a W d c : Addr} (h : H a = some (.lst [.ref d, .ref c])) (w : WellAt H W) : a ≠ W := fun e => by
  obtain ⟨_, _, e1, _⟩ := w
  rw [e, e1] at h
  cases h
/-! the dict's keys, walked -/
def keysV (x : Snap) : List V := x.1.map fun ni => V.str ni.1
theorem walk_dK {d : Addr} {o : Obj} {x : Snap} : Walk (Itk d o (dOf x)) (keysV x).length (fun H => H d = some (.frz o (.dK (dOf x)))) (YAt (keysV x)) := by
  have e : (keysV x).length = (dOf x).length := by unfold keysV dOf; rw [List.length_map, List.length_map]
  rw [e]
  refine walk_keys.mono (fun _ h => h) fun i H y H' hi _ h => ⟨h.1, ?_⟩
  obtain ⟨_, k, v, h1, h2⟩ := h
  unfold dOf at h1
  rw [List.getElem?_map] at h1
  unfold keysV
  rw [List.getElem?_map]
  cases e2 : x.1[i]? with
  | none => rw [e2] at h1; cases h1
  | some ni =>
    rw [e2] at h1
    have h3 := Option.some.inj h1
    rw [h2, ← (Prod.mk.inj h3).1]
    rfl
def RestR (x : Snap) : V → V → Hp → Prop := fun v y H => ∃ (z : Str) (p : Addr), v = .str z ∧ y = .ref p ∧ H p = some (.tup [.str z, .str (txtAt x z)])
theorem rest_pairs {x : Snap} (W : Wf x) {H H' : Hp} {z : Str} (hh : ∀ (p : Addr) (xs : List V), H p = some (.tup xs) → H' p = some (.tup xs)) : ∀ {l : List (Str × Nat)} {acc : List V}, (∀ ni ∈ l, ni ∈ x.1) → Paired (fun v y => RestR x v y H) (l.map fun ni => V.str ni.1) acc →
    ∃ ps : List Addr, acc = ps.map V.ref ∧ Paired (fun p (kv : Key × V) => H' p = some (.tup [kV kv.1, kv.2])) ps (l.map fun ni => (Sum.inr ni.1, V.str (shT ni.2)))
  | [], _, _, .nil => ⟨[], rfl, .nil⟩
  | ni :: l, _, hl, .cons h t => by
    obtain ⟨ps, e, pr⟩ := rest_pairs W (z := z) hh (fun ni h => hl ni (List.mem_cons_of_mem _ h)) t
    obtain ⟨z', p, e1, e2, e3⟩ := h
    have e4 := V.str.inj e1
    subst e4
    rw [txtAt_mem W (i := ni.2) (hl ni List.mem_cons_self)] at e3
    exact ⟨p :: ps, by rw [e2, e]; rfl, .cons (hh _ _ e3) pr⟩
theorem keys_filter (x : Snap) (z : Str) : (keysV x).filter (fun v => decide (v ≠ V.str z)) = (x.1.filter fun ni => decide (ni.1 ≠ z)).map fun ni => V.str ni.1 := by
  unfold keysV
  rw [List.filter_map]
  congr 1
  refine List.filter_congr fun ni _ => ?_
  show decide (V.str ni.1 ≠ V.str z) = _
  rw [Bool.eq_iff_iff, decide_eq_true_iff, decide_eq_true_iff]
  exact ⟨fun h e => h (by rw [e]), fun h e => h (V.str.inj e)⟩
/-! the claims of a name -/
open Classical in
noncomputable def clOf (H : Hp) (x : V) : Str := if h : ∃ (n : Str) (t : Addr), x = V.ref t ∧ ClaimAt H t n then h.choose else ""
theorem clOf_eq {H : Hp} {t : Addr} {n : Str} (h : ClaimAt H t n) : clOf H (.ref t) = n := by
  have e : ∃ (n : Str) (t' : Addr), V.ref t = V.ref t' ∧ ClaimAt H t' n := ⟨n, t, rfl, h⟩
  unfold clOf
  rw [dif_pos e]
  obtain ⟨t', e1, e2⟩ := e.choose_spec
  cases e1
  unfold ClaimAt at h e2
  rw [h] at e2
  have e3 := Option.some.inj e2
  have e4 := HO.tup.inj e3
  have e5 := (List.cons.inj (List.cons.inj e4).2).1
  exact (V.str.inj e5).symm
theorem filt_claims {H : Hp} {z : Str} : ∀ {qs : List Addr} {cs : List Str}, Paired (ClaimAt H) qs cs →
    ∃ us, (qs.map V.ref).filter (fun x => decide (clOf H x = z)) = us.map V.ref ∧ Paired (ClaimAt H) us (cs.filter fun c => decide (c = z))
  | _, _, .nil => ⟨[], rfl, .nil⟩
  | _, _, .cons (a := q) (b := c) h t => by
    obtain ⟨us, e, p⟩ := filt_claims (z := z) t
    rw [List.map_cons, List.filter_cons, List.filter_cons, clOf_eq h]
    by_cases hz : c = z
    · simp only [hz, decide_true, if_true]
      exact ⟨q :: us, by rw [List.map_cons, ← e], .cons (hz ▸ h) (by simpa using p)⟩
    · simp only [hz, decide_false]
      exact ⟨us, by simpa using e, by simpa using p⟩
theorem filt_none {z : Str} {cs : List Str} : (cs.filter fun c => decide (c = z)) = [] ↔ z ∉ cs := by
  rw [List.filter_eq_nil_iff]
  exact ⟨fun h hm => h z hm (by simp), fun h c hc e => h ((of_decide_eq_true e : c = z) ▸ hc)⟩
/-! whether a change is let -/
theorem gd_put_ne {m : List (Str × Nat)} {z c : Str} {j : Nat} (hne : c ≠ z) : gd (putM m z j) c = gd m c := by
  unfold gd putM
  rw [List.all_append]
  have e1 : ([(z, j)] : List (Str × Nat)).all (fun ni => decide (ni.1 ≠ c) || posAll (shR ni.2)) = true := by
    simp [Ne.symm hne]
  rw [e1, Bool.and_true, Bool.eq_iff_iff, List.all_eq_true, List.all_eq_true]
  constructor
  · intro h ni hm
    by_cases hz : ni.1 = z
    · have : ni.1 ≠ c := fun e => hne (e ▸ hz)
      simp [this]
    · exact h ni (List.mem_filter.mpr ⟨hm, by simpa using hz⟩)
  · intro h ni hm
    exact h ni (List.mem_filter.mp hm).1
theorem gd_put {m : List (Str × Nat)} {z : Str} {j : Nat} (hn : (m.map (·.1)).Nodup) : gd (putM m z j) z = posAll (shR j) :=
  gd_at (putM_nodup hn) (List.mem_append_right _ List.mem_cons_self)
theorem chk_put {x : Snap} {z : Str} {j : Nat} (W : Wf x) (h : chk x.1 x.2 = true) : chk (putM x.1 z j) x.2 = (decide (z ∉ x.2) || posAll (shR j)) := by
  unfold chk at h ⊢
  rw [List.all_eq_true] at h
  rw [Bool.eq_iff_iff, List.all_eq_true]
  constructor
  · intro h2
    by_cases hz : z ∈ x.2
    · have := h2 z hz
      rw [gd_put W.nd] at this
      simp [this]
    · simp [hz]
  · intro h2 c hc
    by_cases e : c = z
    · subst e
      rw [gd_put W.nd]
      simpa [hc] using h2
    · rw [gd_put_ne e]
      exact h c hc
theorem chk_snoc {ps : List (Str × Nat)} {cs : List Str} {z : Str} (h : chk ps cs = true) : chk ps (cs ++ [z]) = gd ps z := by
  unfold chk at h ⊢
  rw [List.all_append, h]
  simp
theorem gd_filter {ps : List (Str × Nat)} {z c : Str} (h : gd ps c = true) : gd (ps.filter fun ni => decide (ni.1 ≠ z)) c = true := by
  unfold gd at h ⊢
  rw [List.all_eq_true] at h ⊢
  intro ni hm
  exact h ni (List.mem_filter.mp hm).1
theorem chk_filter {ps : List (Str × Nat)} {cs : List Str} {z : Str} (h : chk ps cs = true) : chk (ps.filter fun ni => decide (ni.1 ≠ z)) cs = true := by
  unfold chk at h ⊢
  rw [List.all_eq_true] at h ⊢
  exact fun c hc => gd_filter (h c hc)
theorem chk_cut {ps : List (Str × Nat)} {cs : List Str} {k : Nat} (h : chk ps cs = true) : chk ps (cs.take k ++ cs.drop (k + 1)) = true := by
  unfold chk at h ⊢
  rw [List.all_eq_true] at h ⊢
  intro c hc
  rcases List.mem_append.mp hc with hc | hc
  · exact h c (List.mem_of_mem_take hc)
  · exact h c (List.mem_of_mem_drop hc)
/-- what the law keeps true of a stand, over the names ns, after k turns -/
structure Ok (ns : List Str) (k : Nat) (x : Snap) : Prop where
  w : Wf x
  ch : chk x.1 x.2 = true
  inn : ∀ ni ∈ x.1, ni.1 ∈ ns
  len : x.2.length ≤ k
theorem nodup_le {α : Type} : ∀ {l m : List α}, l.Nodup → (∀ a ∈ l, a ∈ m) → l.length ≤ m.length
  | [], _, _, _ => Nat.zero_le _
  | a :: l, m, hn, h => by
    obtain ⟨h1, h2⟩ := List.nodup_cons.mp hn
    obtain ⟨s, t, e⟩ := List.append_of_mem (h a List.mem_cons_self)
    subst e
    have ih := nodup_le (m := s ++ t) h2 fun b hb => by
      rcases List.mem_append.mp (h b (List.mem_cons_of_mem _ hb)) with z | z
      · exact List.mem_append_left _ z
      · rcases List.mem_cons.mp z with z | z
        · exact absurd (z ▸ hb) h1
        · exact List.mem_append_right _ z
    rw [List.length_append] at ih ⊢
    rw [List.length_cons, List.length_cons]
    omega
theorem Ok.four {ns : List Str} {k : Nat} {x : Snap} (o : Ok ns k x) (h : ns.length = 4) : x.1.length ≤ 4 := by
  have := nodup_le o.w.nd (m := ns) fun a ha => by
    obtain ⟨i, hi⟩ := mem_names ha
    exact o.inn _ hi
  rw [List.length_map] at this
  omega
theorem ok_put' {ns : List Str} {k : Nat} {x : Snap} {z : Str} {j : Nat} (o : Ok ns k x) (hz : z ∈ ns) (hn : NameOk z) (hj : j < 8) (h : chk (putM x.1 z j) x.2 = true) : Ok ns (k + 1) (putM x.1 z j, x.2) := by
  refine ⟨⟨putM_nodup o.w.nd, fun ni h => ?_, fun ni h => ?_, fun c hc => ?_⟩, h, fun ni h => ?_, Nat.le_succ_of_le o.len⟩
  · rcases List.mem_append.mp h with h | h
    · exact o.w.i8 ni (List.mem_filter.mp h).1
    · rw [List.mem_singleton.mp h]; exact hj
  · rcases List.mem_append.mp h with h | h
    · exact o.w.nm ni (List.mem_filter.mp h).1
    · rw [List.mem_singleton.mp h]; exact hn
  · obtain ⟨i, hi⟩ := mem_names (o.w.cl c hc)
    by_cases e : c = z
    · exact List.mem_map.mpr ⟨(z, j), List.mem_append_right _ List.mem_cons_self, e.symm⟩
    · exact List.mem_map.mpr ⟨(c, i), List.mem_append_left _ (List.mem_filter.mpr ⟨hi, by simpa using e⟩), rfl⟩
  · rcases List.mem_append.mp h with h | h
    · exact o.inn ni (List.mem_filter.mp h).1
    · rw [List.mem_singleton.mp h]; exact hz
theorem ok_drop' {ns : List Str} {k : Nat} {x : Snap} {z : Str} (o : Ok ns k x) (hz : z ∉ x.2) : Ok ns (k + 1) (x.1.filter fun ni => decide (ni.1 ≠ z), x.2) := by
  refine ⟨⟨?_, fun ni h => o.w.i8 ni (List.mem_filter.mp h).1, fun ni h => o.w.nm ni (List.mem_filter.mp h).1, fun c hc => ?_⟩, chk_filter o.ch, fun ni h => o.inn ni (List.mem_filter.mp h).1, Nat.le_succ_of_le o.len⟩
  · exact (List.filter_sublist.map (fun ni : Str × Nat => ni.1)).nodup o.w.nd
  · obtain ⟨i, hi⟩ := mem_names (o.w.cl c hc)
    exact List.mem_map.mpr ⟨(c, i), List.mem_filter.mpr ⟨hi, by simpa using fun e : c = z => hz (e ▸ hc)⟩, rfl⟩
theorem ok_claim' {ns : List Str} {k : Nat} {x : Snap} {z : Str} (o : Ok ns k x) (hz : z ∈ x.1.map (·.1)) (h : chk x.1 (x.2 ++ [z]) = true) : Ok ns (k + 1) (x.1, x.2 ++ [z]) := by
  refine ⟨⟨o.w.nd, o.w.i8, o.w.nm, fun c hc => ?_⟩, h, o.inn, ?_⟩
  · rcases List.mem_append.mp hc with h | h
    · exact o.w.cl c h
    · rw [List.mem_singleton.mp h]; exact hz
  · have := o.len
    show (x.2 ++ [z]).length ≤ _
    simp
    omega
theorem ok_lift' {ns : List Str} {k i : Nat} {x : Snap} (o : Ok ns k x) : Ok ns (k + 1) (x.1, x.2.take i ++ x.2.drop (i + 1)) := by
  refine ⟨⟨o.w.nd, o.w.i8, o.w.nm, fun c hc => ?_⟩, chk_cut o.ch, o.inn, ?_⟩
  · rcases List.mem_append.mp hc with h | h
    · exact o.w.cl c (List.mem_of_mem_take h)
    · exact o.w.cl c (List.mem_of_mem_drop h)
  · have := o.len
    show (x.2.take i ++ x.2.drop (i + 1)).length ≤ _
    simp
    omega
/-! told -/
def toldD : PyData := .list [.str "told", .none]
theorem eqv_told : PyData.eqv toldD toldD = true := by decide +kernel
end Ky
end

section
set_option Elab.async false
set_option linter.all false
set_option maxRecDepth 100000
set_option maxHeartbeats 400000
namespace Ky
open PySem PySem.Spec PyProof.Rows L2 LamX
section
variable {K : PySem.W.Frag}
def clD (cs : List Str) : PyData := .list (cs.map fun c => .tuple [.str "single", .str c])
theorem clD_shp {cs : List Str} (h : ∀ c ∈ cs, NameOk c) : Shp 3 (clD cs) := by
  refine Shp.list (n := 2) fun d hd => ?_
  obtain ⟨c, hc, rfl⟩ := List.mem_map.mp hd
  refine Shp.tuple (n := 1) fun d hd => ?_
  simp only [List.mem_cons, List.mem_singleton, List.not_mem_nil, or_false] at hd
  rcases hd with rfl | rfl
  · exact ⟨by decide +kernel, Nat.zero_le _⟩
  · exact ⟨(h c hc).strOk, Nat.zero_le _⟩
theorem clD_nil {cs : List Str} : PyData.eqv (clD cs) (.list []) = decide (cs = []) := by
  cases cs with
  | nil => rfl
  | cons c cs => rfl
/-- claims == [] -/
theorem rd_claims {σ : L2.St} {H : Hp} {Q : VK} {i : Nat} {U : Addr} {us : List Addr} {cs : List Str} (hi : σ[i]? = some (some (.ref U))) (hU : H U = some (.lst (us.map V.ref))) (hp : Paired (ClaimAt H) us cs) (hn : ∀ c ∈ cs, NameOk c)
    (q : ∀ H', Same H H' → Q (.bl (decide (cs = []))) H') : tOp (rEqD K) (tVar i) (tLst tNil) σ H Q := by
  refine ⟨_, hi, Nat.zero_le _, fun e he => ?_⟩
  have s := same_new (o := .lst []) he
  refine ⟨clD cs, .list [], .lst (SqL.of (s _ _ hU)) (dp_claims (paired_mono hp fun _ _ _ h => s _ _ h)), .lst (SqL.of upd_same) .nil, (clD_shp hn).shaped (by decide), (Shp.list (n := 0) (fun d hd => by cases hd)).shaped (by decide), ?_⟩
  rw [clD_nil]
  exact q _ s
theorem sheet0 {j : Nat} (hj : j < 8) : ∃ c, (shT j).cps[0]? = some c ∧ (!decide (V.str ⟨#[c]⟩ = V.str "0")) = posAll (shR j) := by
  have e : (List.range 8).all (fun j => match (shT j).cps[0]? with | some c => ((!decide (V.str ⟨#[c]⟩ = V.str "0")) == posAll (shR j)) | none => false) = true := by decide +kernel
  have e2 := List.all_eq_true.mp e j (List.mem_range.mpr hj)
  revert e2
  cases (shT j).cps[0]? with
  | none => intro e2; cases e2
  | some c => intro e2; exact ⟨c, rfl, eq_of_beq e2⟩
theorem rd_sheet {σ : L2.St} {H : Hp} {Q : VK} {te : TE} {j : Nat} (hj : j < 8) (hte : ∀ Q' : VK, Q' (.str (shT j)) H → te σ H Q') (q : Q (.bl (posAll (shR j))) H) : tOp rNe (tOp rIxS te (tC (.int 0))) (tC (.str "0")) σ H Q := by
  obtain ⟨c, h1, h2⟩ := sheet0 hj
  have hl : (shT j).length ≤ sizeLine := by
    have e : (List.range 8).all (fun j => decide ((shT j).length ≤ 100000)) = true := by decide +kernel
    exact le_line (of_decide_eq_true (List.all_eq_true.mp e j (List.mem_range.mpr hj)))
  refine hte _ ⟨shT j, 0, c, rfl, rfl, hl, atI_nat (j := 0) (by rw [Array.getElem?_toList]; exact h1), rfl, ?_⟩
  rw [h2]
  exact q
theorem dOf_some {x : Snap} (W : Wf x) (z : Str) : (valV (dOf x) (Sum.inr z)).isSome = decide (z ∈ x.1.map (·.1)) := by
  by_cases h : z ∈ x.1.map (·.1)
  · obtain ⟨i, hi⟩ := mem_names h
    rw [dOf_get W hi, decide_eq_true h]
    rfl
  · rw [decide_eq_false h]
    cases e : valV (dOf x) (Sum.inr z) with
    | none => rfl
    | some v =>
      unfold valV at e
      rw [Option.map_eq_some_iff] at e
      obtain ⟨kv, h1, _⟩ := e
      have h2 := List.mem_of_find?_eq_some h1
      have h3' : (fun kv : Key × V => decide (kv.1 = Sum.inr z)) kv = true := List.find?_some (p := fun kv : Key × V => decide (kv.1 = Sum.inr z)) h1
      have h3 := of_decide_eq_true h3'
      have h4 : kv.1 ∈ (dOf x).map (·.1) := List.mem_map.mpr ⟨_, h2, rfl⟩
      rw [dOf_keys, h3] at h4
      obtain ⟨y, hy, e⟩ := List.mem_map.mp h4
      rw [← Sum.inr.inj e] at h
      exact absurd hy h
theorem rd_in {σ : L2.St} {H : Hp} {Q : VK} {x : Snap} (W : Wf x) {z : Str} {d : Addr} (h14 : σ[14]? = some (some (.str z))) (h5 : σ[5]? = some (some (.ref d))) (hd : H d = some (.dK (dOf x))) (q : Q (.bl (decide (z ∈ x.1.map (·.1)))) H) : tDIn (tVar 14) (tVar 5) σ H Q := by
  refine ⟨_, h14, _, h5, d, _, rfl, DGet.k (k := Sum.inr z) hd, ?_⟩
  rw [dOf_some W]
  exact q
theorem rd_orPut {σ : L2.St} {H : Hp} {Q : VK} {U : Addr} {us : List Addr} {cs : List Str} {z : Str} {j : Nat} (hj : j < 8) (hz : NameOk z) (h8 : σ[8]? = some (some (.ref U))) (h15 : σ[15]? = some (some (.str (shT j)))) (hU : H U = some (.lst (us.map V.ref)))
    (hp : Paired (ClaimAt H) us (cs.filter fun c => decide (c = z))) (q : ∀ H', Same H H' → Q (.bl (decide (z ∉ cs) || posAll (shR j))) H') :
    tOrV (tOp (rEqD K) (tVar 8) (tLst tNil)) (tOp rNe (tOp rIxS (tVar 15) (tC (.int 0))) (tC (.str "0"))) σ H Q := by
  refine rd_claims h8 hU hp (fun c hc => by rw [of_decide_eq_true (List.mem_filter.mp hc).2]; exact hz) fun H' s => ⟨_, rfl, ?_⟩
  by_cases h : z ∈ cs
  · refine ifN (decide_eq_false fun e => filt_none.mp e h) ?_
    refine rd_sheet hj (fun Q' q' => ⟨_, h15, q'⟩) ?_
    have := q H' s
    rw [decide_eq_false (fun e => e h)] at this
    exact this
  · refine ifY (decide_eq_true (filt_none.mpr h)) ?_
    have := q H' s
    rw [decide_eq_true h] at this
    exact this
theorem rd_andDrop {σ : L2.St} {H : Hp} {Q : VK} {U d : Addr} {us : List Addr} {x : Snap} (W : Wf x) {z : Str} (hz : NameOk z) (h8 : σ[8]? = some (some (.ref U))) (h14 : σ[14]? = some (some (.str z))) (h5 : σ[5]? = some (some (.ref d))) (hd : H d = some (.dK (dOf x))) (hU : H U = some (.lst (us.map V.ref)))
    (hp : Paired (ClaimAt H) us (x.2.filter fun c => decide (c = z))) (q : ∀ (b : Bool) (H' : Hp), (b = true ↔ z ∈ x.1.map (·.1) ∧ z ∉ x.2) → Same H H' → Q (.bl b) H') :
    tAndV (tDIn (tVar 14) (tVar 5)) (tOp (rEqD K) (tVar 8) (tLst tNil)) σ H Q := by
  refine rd_in W h14 h5 hd ⟨_, rfl, ?_⟩
  by_cases h : z ∈ x.1.map (·.1)
  · refine ifY (decide_eq_true h) ?_
    refine rd_claims h8 hU hp (fun c hc => by rw [of_decide_eq_true (List.mem_filter.mp hc).2]; exact hz) fun H' s => q _ H' ?_ s
    rw [decide_eq_true_iff, filt_none]
    exact ⟨fun a => ⟨h, a⟩, fun a => a.2⟩
  · refine ifN (decide_eq_false h) ?_
    exact q _ H ⟨fun z => (by cases z), fun z => absurd z.1 h⟩ (Same.refl _)
theorem rd_andClaim {σ : L2.St} {H : Hp} {Q : VK} {d : Addr} {x : Snap} (W : Wf x) {z : Str} (h14 : σ[14]? = some (some (.str z))) (h5 : σ[5]? = some (some (.ref d))) (hd : H d = some (.dK (dOf x)))
    (q : ∀ (b : Bool), (b = true ↔ z ∈ x.1.map (·.1) ∧ gd x.1 z = true) → Q (.bl b) H) :
    tAndV (tDIn (tVar 14) (tVar 5)) (tOp rNe (tOp rIxS (tDGet (tVar 5) (tVar 14)) (tC (.int 0))) (tC (.str "0"))) σ H Q := by
  refine rd_in W h14 h5 hd ⟨_, rfl, ?_⟩
  by_cases h : z ∈ x.1.map (·.1)
  · refine ifY (decide_eq_true h) ?_
    obtain ⟨i, hi⟩ := mem_names h
    have gg := DGet.k (k := Sum.inr z) hd
    rw [dOf_get W hi] at gg
    refine rd_sheet (W.i8 _ hi) (fun Q' q' => ⟨_, h5, _, h14, d, _, rfl, gg, q'⟩) (q _ ?_)
    rw [gd_at W.nd hi]
    exact ⟨fun a => ⟨h, a⟩, fun a => a.2⟩
  · refine ifN (decide_eq_false h) ?_
    exact q _ ⟨fun z => (by cases z), fun z => absurd z.1 h⟩
def bkD (k : Int) (ns : List Int) : PyData := .list [.str "broken", .int k, .tuple (ns.map .int)]
theorem bkD_shp {k : Int} {ns : List Int} : Shp 4 (bkD k ns) := by
  refine Shp.list (n := 3) fun d hd => ?_
  simp only [List.mem_cons, List.mem_singleton, List.not_mem_nil, or_false] at hd
  rcases hd with rfl | rfl | rfl
  · exact ⟨by decide +kernel, Nat.zero_le _⟩
  · exact Shp.int _
  · refine Shp.tuple (n := 2) fun d hd => ?_
    obtain ⟨i, _, rfl⟩ := List.mem_map.mp hd
    exact Shp.int i
theorem bkD_ne {k : Int} {ns : List Int} : PyData.eqv (bkD k ns) toldD = false := by
  have e : ("broken" : Str) ≠ "told" := by decide +kernel
  simp [bkD, toldD, PyData.eqv, PyData.eqvAll, e]
def unD (z : Str) : PyData := .list [.str "unknown", .str z]
theorem unD_shp {z : Str} (h : NameOk z) : Shp 4 (unD z) := by
  refine Shp.list (n := 3) fun d hd => ?_
  simp only [List.mem_cons, List.mem_singleton, List.not_mem_nil, or_false] at hd
  rcases hd with rfl | rfl
  · exact ⟨by decide +kernel, Nat.zero_le _⟩
  · exact ⟨h.strOk, Nat.zero_le _⟩
theorem unD_ne {z : Str} : PyData.eqv (unD z) toldD = false := by
  have e : ("unknown" : Str) ≠ "told" := by decide +kernel
  simp [unD, toldD, PyData.eqv, PyData.eqvAll, e]
def iuD (k : Int) : PyData := .list [.str "in use", .int k]
theorem iuD_shp {k : Int} : Shp 4 (iuD k) := by
  refine Shp.list (n := 3) fun d hd => ?_
  simp only [List.mem_cons, List.mem_singleton, List.not_mem_nil, or_false] at hd
  rcases hd with rfl | rfl
  · exact ⟨by decide +kernel, Nat.zero_le _⟩
  · exact Shp.int _
theorem iuD_ne {k : Int} : PyData.eqv (iuD k) toldD = false := by
  have e : ("in use" : Str) ≠ "told" := by decide +kernel
  simp [iuD, toldD, PyData.eqv, PyData.eqvAll, e]
theorem rd_test3 {σ : L2.St} {H : Hp} {Q : Bool → Hp → Prop} {tA : TT} {c1 : Bool} {cl : Addr} {qs : List Addr} {cs : List Str} (hA : ∀ Q' : Bool → Hp → Prop, Q' c1 H → tA σ H Q') (h6 : σ[6]? = some (some (.ref cl))) (hU : H cl = some (.lst (qs.map V.ref))) (hp : Paired (ClaimAt H) qs cs) (hn : ∀ c ∈ cs, NameOk c)
    (q : ∀ (b : Bool) (H' : Hp), (b = false → cs ≠ []) → Same H H' → Q b H') : tOr tA (tTest (tOp (rEqD K) (tVar 6) (tLst tNil))) σ H Q := by
  refine hA _ ?_
  cases c1 with
  | true => exact ifY rfl (q true H (fun z => by cases z) (Same.refl _))
  | false =>
    refine ifN rfl ?_
    exact rd_claims h6 hU hp hn fun H' s => ⟨_, rfl, q _ H' (fun z => of_decide_eq_false z) s⟩
theorem stand_put {H : Hp} {la d cl : Addr} {x : Snap} {qs : List Addr} (h1 : H la = some (.lst [.ref d, .ref cl])) (h2 : H d = some (.dK (dOf x))) (h3 : H cl = some (.lst (qs.map V.ref))) (h4 : Paired (ClaimAt H) qs x.2) : StandAt H la x := ⟨d, cl, qs, h1, h2, h3, h4⟩
end
def spDone (TT : List (Addr × Str)) (CT CS CD : Addr) : Sp := fun vs H Q _ => ∃ (W D a n t : Addr) (x : Snap) (r : List Snap) (ns : List Str) (k : Nat), vs = [.ref W, .ref D, .ref a, .ref n, .ref t] ∧ WellAt H W ∧ DeskAt CT CS CD H D (x :: r) ∧ StandAt H a x ∧ Ok ns k x ∧ k ≤ 800 ∧
  H n = some (.lst (ns.map V.str)) ∧ ns.length = 4 ∧ (∀ z ∈ ns, NameOk z) ∧ H t = some (.lst shTs) ∧ Tabs TT H ∧
  (∀ (H' : Hp) (p a' : Addr) (x' : Snap), KW W D H H' → WellAt H' W → Tabs TT H' → DeskAt CT CS CD H' D (x' :: x :: r) → StandAt H' a' x' → Ok ns (k + 1) x' → H' p = some (.lst [.ref a', .bl true]) → Q (.ref p) H') ∧
  (∀ (H' : Hp) (p : Addr), KW W D H H' → WellAt H' W → Tabs TT H' → DeskAt CT CS CD H' D (x :: r) → H' p = some (.lst [.ref a, .bl false]) → Q (.ref p) H')
end Ky
end

section
set_option Elab.async false
set_option linter.all false
set_option maxRecDepth 100000
set_option maxHeartbeats 20000000
namespace Ky
open PySem PySem.Spec PyProof.Rows L2 LamX
section
variable {P : Program} {w : World} {K : PySem.W.Frag} {mg : Str → Option Value} {base : Heap} {f CT CS CD CB CU CI CN gE fR pR : Addr} {fd fdE fdR : FuncData} {mcT : Value}
abbrev NDn : List Str := ["_law_well_here", "_law_desk", "_law_stand_here", "_law_names_here", "_law_texts_here", "_law_texts", "_law_claims", "_law_way", "_law_users", "_law_rest", "_law_is_let", "_law_later", "_law_told", "_law_at", "_law_name", "_law_sheet", "_law_claim", "_law_each"]
abbrev PDn : List Str := ["_law_well_here", "_law_desk", "_law_stand_here", "_law_names_here", "_law_texts_here"]
theorem scDn : FnScope NDn PDn (defScope sDone) := ⟨rfl, rfl, rfl, by decide +kernel, rfl, by decide +kernel, by decide +kernel⟩
def spReadR (CT : Addr) : Sp := fun vs H Q E => spRead CT (vs ++ []) H Q E
theorem shTs_at {j : Nat} {v : V} (hj : j < 8) (h : shTs[j]? = some v) : V.str (shT j) = v := by
  have e : (List.range 8).all (fun j => decide (shTs[j]? = some (V.str (shT j)))) = true := by decide +kernel
  have e2 := of_decide_eq_true (List.all_eq_true.mp e j (List.mem_range.mpr hj))
  exact Option.some.inj (e2.symm.trans h)
theorem ok_done {c Pd : Addr} {TT : List (Addr × Str)} (F : FunC K "_law_done" "_law_done" sDone f fd c) (hm : mg "_law_done" = some (.ref f)) (B : Bt mg)
    (C1 : C8.Cal P w K mg base 1 "_law_take" spTake []) (C2 : C8.Cal P w K mg base 2 "_law_one" spOne [])
    (Fe : L2.Fun K "_law_ended" "_law_ended" sEnded gE fdE) (hmE : mg "_law_ended" = some (.ref gE)) (XT : ExT K mg CB CU CI CN)
    (TB : TabB base mg c Pd) (hmT : (Pd, lamQ "_law_done") ∈ TT) (hu : ∀ p ∈ TT, p.1 = Pd → p.2 = lamQ "_law_done")
    (TbC : TbT K mg CT) (rT : ClX.CRead K CT mcT) (cT : ClX.CMet K CT mcT "read" pR fR) (FR : FnOk P w K mg base L2.CX0 6 fR fdR ["cls", "text"] (spRead CT)) (bR : L2.Binds K fdR ["cls", "text"] [])
    (MP : MtX (L2.CX P w) P w K mg base 12 CD "put" (spPut TT CT CS CD CB)) (MD : MtX (L2.CX P w) P w K mg base 5 CD "drop" (spDrop CT CS CD CU CI))
    (MC : MtX (L2.CX P w) P w K mg base 12 CD "claim" (spClaim CT CS CD CU CB)) (ML : MtX (L2.CX P w) P w K mg base 3 CD "lift" (spLift CT CS CD)) : C8.Cal P w K mg base 15 "_law_done" (spDone TT CT CS CD) [] := by
  refine ⟨f, fd, PDn, [], F.ok (k := 14) scDn (fun vs H Q E h => ?_) (fun A outer s H vs Q E hr h => ?_), hm, F.kp, F.fn.binds (fun _ _ _ _ _ _ us hl => match us, hl with | [_, _, _, _, _], _ => rfl), .nil⟩
  · obtain ⟨W, D, a, n, t, x, r, ns, k, rfl, _⟩ := h
    rfl
  · obtain ⟨W, D, a, n, t, x, r, ns, k, rfl, hW, hDk, hS, hO, hk, hn, hn4, hnm, ht, hT, qA, qR⟩ := h
    refine ⟨_, pss_cons (ps_asg (pv 2) (pg_unl rfl (pgs_cons (pg_name (i := 5) scDn.nd rfl (.inr rfl)) (pgs_cons (pg_name (i := 6) scDn.nd rfl (.inl rfl)) pgs_nil))))
      (pss_cons (ps_asg (pe_tup (pa_cons (C8.pe_c C1 hr (by decide) (by rfl) (pa_cons (pv 0) (pa_cons pe_int pa_nil))) (pa_cons (C8.pe_c C2 hr (by decide) (by rfl) (pa_cons (pv 0) (pa_cons (pv 3) pa_nil))) (pa_cons (C8.pe_c C2 hr (by decide) (by rfl) (pa_cons (pv 0) (pa_cons (pv 4) pa_nil))) pa_nil))))
        (pg_tup rfl (pgs_cons (pg_name (i := 7) scDn.nd rfl (.inl rfl)) (pgs_cons (pg_name (i := 14) scDn.nd rfl (.inr rfl)) (pgs_cons (pg_name (i := 15) scDn.nd rfl (.inr rfl)) pgs_nil)))))
      (pss_cons (ps_setLc (i := 8) (te := tVar 16) (tt := tTest (tOp rEq (tOp (rIxT K) (tVar 16) (tC (.int 1))) (tVar 14))) (own := [("_law_claim", 16)]) (g := gName 16) rfl scDn.nd rfl rfl (sw_true rfl rfl rfl (by decide +kernel)) (pi_list (pv 6)) (blkOk_by (N := NDn) (sc := defScope sDone) (by decide +kernel)) (fun _ _ _ _ _ => pg_name (i := 16) scDn.nd rfl (.inl rfl))
          (fun _ _ _ _ _ => pts_one (pt_cmpR op_eq (pe_ix ix_tup (pv 16) pe_int (fun _ _ => rfl)) (pv 14) (nomark _))) (fun _ _ _ _ _ => pv 16))
      (pss_cons (ps_lock (ps_setLc (i := 9) (te := tTup (tCons (tVar 17) (tCons (tDGet (tVar 5) (tVar 17)) tNil))) (tt := tTest (tOp rNe (tVar 17) (tVar 14))) (own := [("_law_each", 17)]) (g := gName 17) rfl scDn.nd rfl rfl (sw_true rfl rfl rfl (by decide +kernel)) (pi_keys (pv 5)) (blkOk_by (N := NDn) (sc := defScope sDone) (by decide +kernel)) (fun _ _ _ _ _ => pg_name (i := 17) scDn.nd rfl (.inl rfl))
          (fun _ _ _ _ _ => pts_one (pt_cmpR op_ne (pv 17) (pv 14) (nomark _))) (fun _ _ _ _ _ => pe_tup (pa_cons (pv 17) (pa_cons (pe_dget (hu_of hr) (pv 5) (pv 17) (fun _ _ => rfl)) pa_nil)))))
      (C8.pss_cut (ps_if (pt_cmpR op_lt (pv 7) pe_int (nomark _))
          (pss_cons (ps_par (i := 10) (j := 11) rfl scDn.nd rfl rfl (by decide) rfl rfl (pa_cons (pe_or (pe_cmpR (op_eqD hr.units) (pv 8) (pe_lst pa_nil) (nomark _)) (pe_one (pe_cmpR op_ne (pe_ix ix_str (pv 15) pe_int (fun _ _ => rfl)) pe_str (nomark _))))
              (pa_cons (pe_lst (pa_cons (pe_callTy (call_dictP rfl) (by rfl) B.dict boot_dict (pa_cons (pe_op op_cat (pv 9) (pe_lst (pa_cons (pe_tup (pa_cons (pv 14) (pa_cons (pv 15) pa_nil))) pa_nil))) pa_nil)) (pa_cons (pv 6) pa_nil))) pa_nil)) (by rfl))
          (pss_one (ps_set (i := 12) scDn.nd rfl (Or.inl rfl) (pe_lamF (T := TT) (k := 12) (t := fun E => tMeth CD "put" (spPut TT CT CS CD CB) [] E (tVar 1) (tCons (tVar 14) (tCons (ClX.tCMeth CT (spReadR CT) C8.E0 (tC (.ref CT)) (tCons (tVar 15) tNil)) tNil))) Fe hmE XT (by rfl) TB hmT hu hr (by decide +kernel) (by rfl) (by intros; rfl)
              (fun A outer s H E f c' hr2 => pe_mX MP hr2 (by decide) (pv 1) (passes_call (takes_of rfl rfl rfl rfl) (fun _ _ _ _ h => h)) (pa_cons (pv 14) (pa_cons (ClX.pe_cmeth (pe_glob (v := .ref CT) (by rfl) TbC.mgT rfl) rT cT (FR.raw bR .nil) (hr2.mono (by decide)) pass0 (pa_cons (pv 15) pa_nil)) pa_nil)))))))
        (pss_one (ps_if (pt_cmpR op_eq (pv 7) pe_int (nomark _))
          (pss_cons (ps_par (i := 10) (j := 11) rfl scDn.nd rfl rfl (by decide) rfl rfl (pa_cons (pe_and (pe_cmp (pc_din (hu_of hr) (pv 14) (pv 5)) (by rfl)) (pe_one (pe_cmpR (op_eqD hr.units) (pv 8) (pe_lst pa_nil) (nomark _))))
              (pa_cons (pe_lst (pa_cons (pe_callTy (call_dictP rfl) (by rfl) B.dict boot_dict (pa_cons (pv 9) pa_nil)) (pa_cons (pv 6) pa_nil))) pa_nil)) (by rfl))
          (pss_one (ps_set (i := 12) scDn.nd rfl (Or.inl rfl) (pe_lamF (T := TT) (k := 12) (t := fun E => tMeth CD "drop" (spDrop CT CS CD CU CI) [] E (tVar 1) (tCons (tVar 14) tNil)) Fe hmE XT (by rfl) TB hmT hu hr (by decide +kernel) (by rfl) (by intros; rfl)
              (fun A outer s H E f c' hr2 => pe_mX MD hr2 (by decide) (pv 1) (passes_call (takes_of rfl rfl rfl rfl) (fun _ _ _ _ h => h)) (pa_cons (pv 14) pa_nil))))))
        (pss_one (ps_if (PW.pt (pw_or (pt_cmpR op_lt (pv 7) pe_int (nomark _)) (pw_or1 (pt_cmpR (op_eqD hr.units) (pv 6) (pe_lst pa_nil) (nomark _)))))
          (pss_cons (ps_par (i := 10) (j := 11) rfl scDn.nd rfl rfl (by decide) rfl rfl (pa_cons (pe_and (pe_cmp (pc_din (hu_of hr) (pv 14) (pv 5)) (by rfl)) (pe_one (pe_cmpR op_ne (pe_ix ix_str (pe_dget (hu_of hr) (pv 5) (pv 14) (fun _ _ => rfl)) pe_int (fun _ _ => rfl)) pe_str (nomark _))))
              (pa_cons (pe_lst (pa_cons (pv 5) (pa_cons (pe_op op_cat (pv 6) (pe_lst (pa_cons (pe_tup (pa_cons pe_str (pa_cons (pv 14) pa_nil))) pa_nil))) pa_nil))) pa_nil)) (by rfl))
          (pss_one (ps_set (i := 12) scDn.nd rfl (Or.inl rfl) (pe_lamF (T := TT) (k := 12) (t := fun E => tMeth CD "claim" (spClaim CT CS CD CU CB) [] E (tVar 1) (tCons (tTup (tCons (tC (.str "single")) (tCons (tVar 14) tNil))) tNil)) Fe hmE XT (by rfl) TB hmT hu hr (by decide +kernel) (by rfl) (by intros; rfl)
              (fun A outer s H E f c' hr2 => pe_mX MC hr2 (by decide) (pv 1) (passes_call (takes_of rfl rfl rfl rfl) (fun _ _ _ _ h => h)) (pa_cons (pe_tup (pa_cons pe_str (pa_cons (pv 14) pa_nil))) pa_nil))))))
          (pss_cons (ps_set (i := 13) scDn.nd rfl (Or.inr rfl) (C8.pe_c C1 hr (by decide) (by rfl) (pa_cons (pv 0) (pa_cons (pe_callB (r := Evl.rLenS K) call_len_seq (by rfl) B.len PySem.boot_len (pa_cons (pv 6) pa_nil)) pa_nil))))
          (pss_cons (ps_par (i := 10) (j := 11) rfl scDn.nd rfl rfl (by decide) rfl rfl (pa_cons pe_bl
              (pa_cons (pe_lst (pa_cons (pv 5) (pa_cons (pe_op op_cat (pe_slice sl_list (pv 6) po_none (po_some (pv 13))) (pe_slice sl_list (pv 6) (po_some (pe_op op_add (pv 13) pe_int)) po_none)) pa_nil))) pa_nil)) (by rfl))
          (pss_one (ps_set (i := 12) scDn.nd rfl (Or.inl rfl) (pe_lamF (T := TT) (k := 12) (t := fun E => tMeth CD "lift" (spLift CT CS CD) [] E (tVar 1) (tCons (tVar 13) tNil)) Fe hmE XT (by rfl) TB hmT hu hr (by decide +kernel) (by rfl) (by intros; rfl)
              (fun A outer s H E f c' hr2 => pe_mX ML hr2 (by decide) (pv 1) (passes_call (takes_of rfl rfl rfl rfl) (fun _ _ _ _ h => h)) (pa_cons (pv 13) pa_nil))))))))))))
      (pss_cons (ps_if (pt_cmpR op_ne (pe_cmpR (op_eqD hr.units) (pv 12) (pe_lst (pa_cons pe_str (pa_cons pe_non pa_nil))) (nomark _)) (pv 10) (nomark _)) (pss_one (ps_ret (pe_lst pa_nil))) pss_nil)
      (pss_one (ps_ret (pe_lst (pa_cons (pe_ifExp (pt_val (pv 10)) (pv 11) (pv 2)) (pa_cons (pv 10) pa_nil)))))))))), ?_⟩
    obtain ⟨d, cl, qs0, hs1, _⟩ := id hS
    have hnW : n ≠ W := fun e => by
      obtain ⟨_, _, e1, _⟩ := hW
      rw [e, e1] at hn
      cases ns with
      | nil => simp at hn
      | cons q qs => simp at hn
    have htW : t ≠ W := fun e => by
      obtain ⟨_, _, e1, _⟩ := hW
      rw [e, e1] at ht
      have e2 := congrArg List.length (HO.lst.inj (Option.some.inj ht))
      exact absurd e2 (by show ¬ 2 = shTs.length; decide)
    refine ⟨_, rfl, a, _, rfl, SqL.of hs1, rfl, _, _, rfl, _, _, rfl, rfl, ?_⟩
    refine ⟨_, rfl, W, _, rfl, hW, by decide, by decide, fun H1 way k1 w1 hway => ?_⟩
    refine ⟨_, rfl, _, rfl, W, _, rfl, w1, .inl ⟨n, _, rfl, hnW, k1 _ _ hn hnW, by rw [List.length_map]; omega, by rw [List.length_map]; omega, fun H2 i2 v k2 w2 hv => ?_⟩⟩
    obtain ⟨z, hz, rfl⟩ : ∃ z, z ∈ ns ∧ V.str z = v := List.mem_map.mp (List.mem_of_getElem? hv)
    refine ⟨_, rfl, _, rfl, W, _, rfl, w2, .inl ⟨t, _, rfl, htW, k2 _ _ (k1 _ _ ht htW) htW, by decide, by decide, fun H3 j v k3 w3 hv3 => ?_⟩⟩
    have hj : j < 8 := (List.getElem?_eq_some_iff.mp hv3).1
    obtain rfl : V.str (shT j) = v := shTs_at hj hv3
    refine ⟨(by show 3 ≤ sizeLine; decide), fun p1 hp1 => ⟨p1, _, rfl, SqT.of upd_same, rfl, _, _, rfl, _, _, rfl, _, _, rfl, rfl, ?_⟩⟩
    have k04 : KeepD W H (upd H3 p1 (.tup [.int way, .str z, .str (shT j)])) := ((k1.trans k2).trans k3).trans (KeepD.of (same_new hp1))
    have w4 : WellAt (upd H3 p1 (.tup [.int way, .str z, .str (shT j)])) W := wellNew w3 hp1
    generalize upd H3 p1 (.tup [.int way, .str z, .str (shT j)]) = H4 at *
    have hDk4 := desk_W hDk hW k04
    have hS4 : StandAt H4 a x := hS.kw hDk hW (KW.ofW k04)
    have hT4 : Tabs TT H4 := tabs_W hT hW k04
    have hs1' := k04 _ _ hs1 (stand_ne hs1 hW)
    obtain ⟨qs, hs2, hs3, hs4⟩ := hS4.at hs1'
    have kw4 : KW W D H H4 := KW.ofW k04
    have hqs : qs.length ≤ 800 := by
      have := paired_len hs4
      have := hO.len
      omega
    have hx4 : x.1.length ≤ 4 := hO.four hn4
    -- the claims on the name
    refine ⟨_, rfl, cl, rfl, ⟨_, SqL.of hs3⟩, fun U hU => ?_⟩
    refine lcF (walk_list (K := K) (a := cl) (xs := qs.map V.ref)) (fun v => decide (clOf H4 v = z)) (fun x y _ => y = x) (fun _ _ _ _ r _ => r) (fun H5 s5 => sqL_same s5 (SqL.of hs3)) hU ?_ (fun i y H5 Ny Nn hx s5 _ hy hn => ?_) (fun H5 acc s5 hacc pr => ?_)
    · rw [List.length_map]
      omega
    · obtain ⟨q0, hq0, rfl⟩ : ∃ t, t ∈ qs ∧ V.ref t = y := List.mem_map.mp (List.mem_of_getElem? hx)
      obtain ⟨c', _, h1⟩ := paired_left hs4 hq0
      refine ⟨rfl, _, rfl, q0, _, 1, _, rfl, rfl, SqT.of (s5 _ _ h1), atI_of (by decide) rfl, _, rfl, rfl, _, rfl, ?_⟩
      have en : clOf H4 (.ref q0) = c' := clOf_eq h1
      by_cases hz2 : c' = z
      · refine ifY (decide_eq_true (by rw [hz2])) ?_
        exact ⟨_, rfl, hy (by rw [en]; simp [hz2]) _ _ (Same.refl _) rfl⟩
      · refine ifN (decide_eq_false (fun e => hz2 (V.str.inj e))) ?_
        exact hn (by rw [en]; simp [hz2]) _ (Same.refl _)
    have eacc : acc = (qs.map V.ref).filter (fun v => decide (clOf H4 v = z)) := paired_eq pr
    obtain ⟨us, eus, hus⟩ := filt_claims (z := z) hs4
    rw [eus] at eacc
    subst eacc
    -- the other names' texts
    refine ⟨d, .dK (dOf x), s5 _ _ hs2, trivial, fun od => ?_⟩
    refine ⟨_, rfl, d, od, rfl, .inl ⟨_, upd_same, fun R hR => ?_⟩⟩
    refine lcF (walk_dK (d := d) (o := od) (x := x)) (fun v => decide (v ≠ V.str z)) (RestR x) (fun v y H H' h s => ?_) (fun H6 s6 => s6 _ _ upd_same) hR ?_ (fun i y H6 Ny Nn hx s6 hacc2 hy hn => ?_) (fun H6 acc s6 hacc2 pr2 => ?_)
    · obtain ⟨z', p, e1, e2, e3⟩ := h
      exact ⟨z', p, e1, e2, s _ _ e3⟩
    · unfold keysV
      rw [List.length_map]
      omega
    · obtain ⟨⟨z', i'⟩, hm', rfl⟩ : ∃ ni ∈ x.1, V.str ni.1 = y := List.mem_map.mp (List.mem_of_getElem? hx)
      refine ⟨rfl, _, rfl, _, rfl, rfl, _, rfl, ?_⟩
      by_cases hz2 : z' = z
      · refine ifN (by rw [decide_eq_true (by rw [hz2])]; rfl) ?_
        exact hn (by simp [hz2]) _ (Same.refl _)
      · refine ifY (by rw [decide_eq_false (fun e => hz2 (V.str.inj e))]; rfl) ?_
        refine ⟨_, rfl, _, rfl, _, rfl, d, _, rfl, .inl ⟨dOf x, .inr z', .inr ⟨od, s6 _ _ upd_same⟩, rfl, (dOf_get hO.w hm').symm⟩, (by show 2 ≤ sizeLine; decide), fun p hp => hy ?_ _ _ (same_new hp) ⟨z', p, rfl, rfl, ?_⟩⟩
        · exact decide_eq_true fun e => hz2 (V.str.inj e)
        · obtain ⟨ac, hac⟩ := hacc2
          rw [del_ne (fun e => by rw [e, hac] at hp; cases hp), upd_same, txtAt_mem hO.w hm']
    refine ⟨s6 _ _ upd_same, ?_⟩
    have hUd : U ≠ d := fun e => by
      rw [e] at hacc
      have := s5 _ _ hs2
      rw [hacc] at this
      cases this
    have hRd : R ≠ d := fun e => by
      rw [e, upd_same] at hR
      cases hR
    have hfd : H6 d = some (.frz od (.dK (dOf x))) := s6 _ _ upd_same
    have sb : Same H4 (upd H6 d (.dK (dOf x))) := fun b o e => by
      by_cases hb : b = d
      · rw [hb, hs2] at e
        rw [hb, upd_same]
        exact e
      · rw [upd_ne hb]
        exact s6 _ _ (by rw [upd_ne hb]; exact s5 _ _ e)
    have hRb : (upd H6 d (.dK (dOf x))) R = some (.lst acc) := by rw [upd_ne hRd]; exact hacc2
    have hUb : (upd H6 d (.dK (dOf x))) U = some (.lst (us.map V.ref)) := by
      rw [upd_ne hUd]
      exact s6 _ _ (by rw [upd_ne hUd]; exact hacc)
    rw [keys_filter] at pr2
    obtain ⟨ps, eps, hps⟩ := rest_pairs hO.w (z := z) (H' := upd H6 d (.dK (dOf x))) (fun p xs h => by
      have h6 := same_del _ _ h
      rw [upd_ne (fun e => by rw [e, hfd] at h6; cases h6)]
      exact h6) (fun ni h => (List.mem_filter.mp h).1) pr2
    subst eps
    generalize upd H6 d (.dK (dOf x)) = Hb at *
    have hWb := well_same w4 sb
    have hDb := hDk4.same sb
    have hSb := hS4.same sb
    have hTb := tabs_same hT4 sb
    have kwb := kw4.trans (KW.of sb)
    have hus' := paired_mono hus fun _ _ _ h => sb _ _ h
    have hclb := sb _ _ hs3
    have hdb := sb _ _ hs2
    have hnz := hnm z hz
    have hne := desk_ne hDb hWb
    refine ⟨fun σ' H' => ∃ (b : Bool) (la to : Addr), σ'[2]? = some (some (.ref a)) ∧ σ'[10]? = some (some (.bl b)) ∧ σ'[11]? = some (some (.ref la)) ∧ σ'[12]? = some (some (.ref to)) ∧ KW W D H H' ∧ WellAt H' W ∧ Tabs TT H' ∧
      ((b = true ∧ H' to = some (.lst [.str "told", .non]) ∧ ∃ x', DeskAt CT CS CD H' D (x' :: x :: r) ∧ StandAt H' la x' ∧ Ok ns (k + 1) x') ∨ (b = false ∧ DeskAt CT CS CD H' D (x :: r) ∧ ∃ dd, Dp K H' (.ref to) dd ∧ Shp 4 dd ∧ PyData.eqv dd toldD = false)), ?_, ?_⟩
    · -- the four ways
      obtain ⟨dxD, sh, hDD, hShD⟩ := id hDb
      have nmx : ∀ c ∈ x.2, NameOk c := fun c hc => by
        obtain ⟨i, hi⟩ := mem_names (hO.w.cl c hc)
        exact hO.w.nm _ hi
      have hl900 : x.2.length ≤ 900 := by have := hO.len; omega
      refine ⟨_, rfl, _, _, rfl, rfl, _, rfl, ?_⟩
      by_cases hy1 : (way : Int) < 2
      · refine ifY (decide_eq_true hy1) ?_
        -- put
        refine rd_orPut (K := K) hj hnz rfl rfl hUb hus' fun Ha sa => ?_
        generalize hB : (decide (z ∉ x.2) || posAll (shR j)) = b at *
        refine ⟨_, rfl, _, rfl, _, rfl, (by show 2 ≤ sizeLine; decide), fun np hnp => ?_⟩
        refine ⟨(by show 1 ≤ sizeLine; decide), fun l1 hl1 => ?_⟩
        have s1 : Same Hb (upd (upd Ha np (.tup [.str z, .str (shT j)])) l1 (.lst [.ref np])) := (sa.new hnp).new hl1
        have hnp1 : (upd (upd Ha np (.tup [.str z, .str (shT j)])) l1 (.lst [.ref np])) np = some (.tup [.str z, .str (shT j)]) := same_new hl1 _ _ upd_same
        refine ⟨R, l1, _, _, rfl, rfl, s1 _ _ hRb, upd_same, ?_, fun l2 hl2 => ?_⟩
        · rw [List.length_map]
          have h1 := paired_len hps
          rw [List.length_map] at h1
          have h2 := List.length_filter_le (fun ni : Str × Nat => decide (ni.1 ≠ z)) x.1
          exact le_line (by show ps.length + 1 ≤ 100000; omega)
        have s2 := s1.new (o := .lst (ps.map V.ref ++ [.ref np])) hl2
        have ekv : ((x.1.filter fun ni => decide (ni.1 ≠ z)).map fun ni => ((Sum.inr ni.1 : Key), V.str (shT ni.2))) ++ [(Sum.inr z, V.str (shT j))] = dOf (putM x.1 z j, x.2) := by
          unfold dOf putM
          rw [List.map_append]
          rfl
        refine ⟨l2, ps ++ [np], dOf (putM x.1 z j, x.2), rfl, SqL.of (by rw [upd_same, List.map_append]; rfl), ?_, fun dd hdd => ?_⟩
        · rw [← ekv]
          exact paired_app (paired_mono hps fun _ _ _ h => SqT.of (s2 _ _ h)) (.cons (SqT.of (same_new hl2 _ _ hnp1)) .nil)
        have emg : mergeK [] (dOf (putM x.1 z j, x.2)) = dOf (putM x.1 z j, x.2) := by
          rw [mergeK_nodup (by rw [List.nil_append, dOf_keys]; exact nodup_inr (putM_nodup hO.w.nd)), List.nil_append]
        rw [emg]
        refine ⟨_, rfl, (by show 2 ≤ sizeLine; decide), fun la hla => ⟨_, _, rfl, ?_⟩⟩
        have s3 := s2.new (o := .dK (dOf (putM x.1 z j, x.2))) hdd
        have s4 := s3.new (o := .lst [.ref dd, .ref cl]) hla
        have hSt : StandAt (upd (upd (upd (upd (upd Ha np (.tup [.str z, .str (shT j)])) l1 (.lst [.ref np])) l2 (.lst (ps.map V.ref ++ [.ref np]))) dd (.dK (dOf (putM x.1 z j, x.2)))) la (.lst [.ref dd, .ref cl])) la (putM x.1 z j, x.2) :=
          ⟨dd, cl, qs, upd_same, same_new hla _ _ upd_same, s4 _ _ hclb, paired_mono hs4 fun _ _ _ h => s4 _ _ (sb _ _ h)⟩
        generalize upd (upd (upd (upd (upd Ha np (.tup [.str z, .str (shT j)])) l1 (.lst [.ref np])) l2 (.lst (ps.map V.ref ++ [.ref np]))) dd (.dK (dOf (putM x.1 z j, x.2)))) la (.lst [.ref dd, .ref cl]) = Hl at *
        refine ⟨tabs_same hTb s4, fun H1' eN T1 => ?_⟩
        have hD1 := desk_N (hDb.same s4) eN
        have w1' := well_N (well_same hWb s4) eN
        refine ⟨_, rfl, D, dxD, _, rfl, eN _ _ (s4 _ _ hDD) (fun _ z => by cases z), df_no _ (by decide +kernel), _, rfl, rfl, _, rfl, shT j, shR j, rfl, (sh_at hj).1, fun H2' t' s5' tb => ?_⟩
        have hD2 := hD1.same s5'
        have w2' := well_same w1' s5'
        have kl2 : KW W D Hl H2' := (KW.ofN eN).trans (KW.of s5')
        refine ⟨D, t', z, j, x, r, rfl, hnz, hj, tb, hD2, hO.w, by omega, hl900, tabs_same T1 s5', fun hc H3' kX tX dX => ?_, fun hc H3' ed iv sv bk kX tX dX hed => ?_⟩
        · intro p hp
          have sp := same_new (o := .lst [.str "told", .non]) hp
          rw [chk_put hO.w hO.ch, hB] at hc
          refine ⟨b, la, p, rfl, rfl, rfl, rfl, ((kwb.trans (KW.of s4)).trans kl2).trans ((KW.ofX kX).trans (KW.of sp)), well_same (well_X w2' hne kX) sp, tabs_same tX sp, .inl ⟨hc, upd_same, (putM x.1 z j, x.2), dX.same sp, (hSt.kw (hDb.same s4) (well_same hWb s4) (kl2.trans (KW.ofX kX))).same sp, ok_put' hO hz hnz hj (by rw [chk_put hO.w hO.ch, hB]; exact hc)⟩⟩
        · refine .inl ⟨rfl, ed, _, iv, sv, rfl, hed, rfl, rfl, fun p hp => ?_⟩
          have sp := same_new (o := .lst [.str "broken", iv, sv]) hp
          rw [chk_put hO.w hO.ch, hB] at hc
          obtain ⟨ki, u, nn, rfl, rfl, hu3⟩ := bk
          refine ⟨b, la, p, rfl, rfl, rfl, rfl, ((kwb.trans (KW.of s4)).trans kl2).trans ((KW.ofX kX).trans (KW.of sp)), well_same (well_X w2' hne kX) sp, tabs_same tX sp, .inr ⟨hc, dX.same sp, bkD ki nn, ?_, bkD_shp, bkD_ne⟩⟩
          exact .lst (SqL.of upd_same) (.cons (.str _) (.cons (.int _) (.cons (.tup (SqT.of (sp _ _ hu3)) (dp_ints nn)) .nil)))
      · refine ifN (decide_eq_false hy1) ?_
        refine ⟨_, rfl, rfl, _, rfl, ?_⟩
        by_cases hy2 : V.int (way : Int) = V.int 2
        · refine ifY (decide_eq_true hy2) ?_
          -- drop
          refine rd_andDrop (K := K) hO.w hnz rfl rfl rfl hdb hUb hus' fun b Ha hb sa => ?_
          refine ⟨_, rfl, R, ps, dOf (x.1.filter fun ni => decide (ni.1 ≠ z), x.2), rfl, SqL.of (sa _ _ hRb), paired_mono hps fun _ _ _ h => SqT.of (sa _ _ h), fun dd hdd => ?_⟩
          have emg : mergeK [] (dOf (x.1.filter fun ni => decide (ni.1 ≠ z), x.2)) = dOf (x.1.filter fun ni => decide (ni.1 ≠ z), x.2) := by
            rw [mergeK_nodup (by rw [List.nil_append, dOf_keys]; exact nodup_inr ((List.filter_sublist.map (fun ni : Str × Nat => ni.1)).nodup hO.w.nd)), List.nil_append]
          rw [emg]
          refine ⟨_, rfl, (by show 2 ≤ sizeLine; decide), fun la hla => ⟨_, _, rfl, ?_⟩⟩
          have s3 := sa.new (o := .dK (dOf (x.1.filter fun ni => decide (ni.1 ≠ z), x.2))) hdd
          have s4 := s3.new (o := .lst [.ref dd, .ref cl]) hla
          have hSt : StandAt (upd (upd Ha dd (.dK (dOf (x.1.filter fun ni => decide (ni.1 ≠ z), x.2)))) la (.lst [.ref dd, .ref cl])) la (x.1.filter fun ni => decide (ni.1 ≠ z), x.2) :=
            stand_put (d := dd) (cl := cl) (qs := qs) upd_same (same_new hla _ _ upd_same) (s4 _ _ hclb) (paired_mono hs4 fun _ _ _ h => s4 _ _ (sb _ _ h))
          generalize upd (upd Ha dd (.dK (dOf (x.1.filter fun ni => decide (ni.1 ≠ z), x.2)))) la (.lst [.ref dd, .ref cl]) = Hl at *
          refine ⟨tabs_same hTb s4, fun H1' eN T1 => ?_⟩
          have hD1 := desk_N (hDb.same s4) eN
          have w1' := well_N (well_same hWb s4) eN
          have hDD1 := eN _ _ (s4 _ _ hDD) (fun _ z => by cases z)
          have kl1 : KW W D Hl H1' := KW.ofN eN
          have kwl := (kwb.trans (KW.of s4)).trans kl1
          refine ⟨_, rfl, D, dxD, _, rfl, hDD1, df_no _ (by decide +kernel), _, rfl, D, z, x, r, rfl, hnz, hD1, by omega, fun hz' H3' ed s5 hed => ?_, fun hz1 hz2 H3' ed iv s5 hed => ?_, fun hz1 hz2 H3' kD dX => ?_⟩
          · refine .inr (.inl ⟨rfl, ed, _, .str z, rfl, hed, rfl, fun p hp => ?_⟩)
            have sp := s5.trans (same_new (o := .lst [.str "unknown", .str z]) hp)
            refine ⟨b, la, p, rfl, rfl, rfl, rfl, kwl.trans (KW.of sp), well_same w1' sp, tabs_same T1 sp, .inr ⟨?_, hD1.same sp, unD z, .lst (SqL.of upd_same) (.cons (.str _) (.cons (.str _) .nil)), unD_shp hnz, unD_ne⟩⟩
            cases b with
            | false => rfl
            | true => exact absurd (hb.mp rfl).1 hz'
          · refine .inr (.inr (.inl ⟨rfl, ed, _, .int iv, rfl, hed, rfl, fun p hp => ?_⟩))
            have sp := s5.trans (same_new (o := .lst [.str "in use", .int iv]) hp)
            refine ⟨b, la, p, rfl, rfl, rfl, rfl, kwl.trans (KW.of sp), well_same w1' sp, tabs_same T1 sp, .inr ⟨?_, hD1.same sp, iuD iv, .lst (SqL.of upd_same) (.cons (.str _) (.cons (.int _) .nil)), iuD_shp, iuD_ne⟩⟩
            cases b with
            | false => rfl
            | true => exact absurd hz2 (hb.mp rfl).2
          · intro p hp
            have sp := same_new (o := .lst [.str "told", .non]) hp
            exact ⟨b, la, p, rfl, rfl, rfl, rfl, kwl.trans ((KW.ofD kD).trans (KW.of sp)), well_same (well_D w1' hne kD) sp, tabs_same (tabs_D T1 hDD1 kD) sp, .inl ⟨hb.mpr ⟨hz1, hz2⟩, upd_same, _, dX.same sp, (hSt.kw (hDb.same s4) (well_same hWb s4) (kl1.trans (KW.ofD kD))).same sp, ok_drop' hO hz2⟩⟩
        · refine ifN (decide_eq_false hy2) ?_
          refine rd_test3 (K := K) (c1 := decide ((way : Int) < 5)) (fun Q' q' => ⟨_, rfl, _, _, rfl, rfl, _, rfl, q'⟩) rfl hclb (paired_mono hs4 fun _ _ _ h => sb _ _ h) nmx fun b3 Ha hb3 sa => ?_
          cases b3 with
          | true =>
            refine ifY rfl ?_
            -- claim
            refine rd_andClaim hO.w rfl rfl (sa _ _ hdb) fun b hb => ?_
            refine ⟨_, rfl, _, rfl, _, rfl, (by show 2 ≤ sizeLine; decide), fun np hnp => ⟨(by show 1 ≤ sizeLine; decide), fun l1 hl1 => ?_⟩⟩
            have s1 : Same Hb (upd (upd Ha np (.tup [.str "single", .str z])) l1 (.lst [.ref np])) := (sa.new hnp).new hl1
            have hnp1 : (upd (upd Ha np (.tup [.str "single", .str z])) l1 (.lst [.ref np])) np = some (.tup [.str "single", .str z]) := same_new hl1 _ _ upd_same
            refine ⟨cl, l1, _, _, rfl, rfl, s1 _ _ hclb, upd_same, ?_, fun l2 hl2 => ⟨(by show 2 ≤ sizeLine; decide), fun la hla => ⟨_, _, rfl, ?_⟩⟩⟩
            · rw [List.length_map]
              exact le_line (by show qs.length + 1 ≤ 100000; omega)
            have s2 := s1.new (o := .lst (qs.map V.ref ++ [.ref np])) hl2
            have s4 := s2.new (o := .lst [.ref d, .ref l2]) hla
            have hSt : StandAt (upd (upd (upd (upd Ha np (.tup [.str "single", .str z])) l1 (.lst [.ref np])) l2 (.lst (qs.map V.ref ++ [.ref np]))) la (.lst [.ref d, .ref l2])) la (x.1, x.2 ++ [z]) :=
              stand_put (d := d) (cl := l2) (qs := qs ++ [np]) upd_same (s4 _ _ hdb) (same_new hla _ _ (by rw [upd_same, List.map_append]; rfl)) (paired_app (paired_mono hs4 fun _ _ _ h => s4 _ _ (sb _ _ h)) (.cons (same_new hla _ _ (same_new hl2 _ _ hnp1)) .nil))
            generalize upd (upd (upd (upd Ha np (.tup [.str "single", .str z])) l1 (.lst [.ref np])) l2 (.lst (qs.map V.ref ++ [.ref np]))) la (.lst [.ref d, .ref l2]) = Hl at *
            refine ⟨tabs_same hTb s4, fun H1' eN T1 => ?_⟩
            have hD1 := desk_N (hDb.same s4) eN
            have w1' := well_N (well_same hWb s4) eN
            have hDD1 := eN _ _ (s4 _ _ hDD) (fun _ z => by cases z)
            refine ⟨_, rfl, D, dxD, _, rfl, hDD1, df_no _ (by decide +kernel), _, rfl, (by show 2 ≤ sizeLine; decide), fun cp hcp => ?_⟩
            have sc := same_new (o := .tup [.str "single", .str z]) hcp
            have hcp1 : ClaimAt (upd H1' cp (.tup [.str "single", .str z])) cp z := upd_same
            generalize upd H1' cp (.tup [.str "single", .str z]) = H2' at *
            have hD2 := hD1.same sc
            have w2' := well_same w1' sc
            have T2 := tabs_same T1 sc
            have hDD2 := sc _ _ hDD1
            have kl2 : KW W D Hl H2' := (KW.ofN eN).trans (KW.of sc)
            have kwl := (kwb.trans (KW.of s4)).trans kl2
            refine ⟨D, cp, z, x, r, rfl, hcp1, hnz, hD2, hO.w, by omega, hl900, fun hz' H3' ed s5 hed => ?_, fun hz1 hc H3' ed iv sv bk s5 hed => ?_, fun hz1 hc H3' kD dX => ?_⟩
            · refine .inr (.inl ⟨rfl, ed, _, .str z, rfl, hed, rfl, fun p hp => ?_⟩)
              have sp := s5.trans (same_new (o := .lst [.str "unknown", .str z]) hp)
              refine ⟨b, la, p, rfl, rfl, rfl, rfl, kwl.trans (KW.of sp), well_same w2' sp, tabs_same T2 sp, .inr ⟨?_, hD2.same sp, unD z, .lst (SqL.of upd_same) (.cons (.str _) (.cons (.str _) .nil)), unD_shp hnz, unD_ne⟩⟩
              cases b with
              | false => rfl
              | true => exact absurd (hb.mp rfl).1 hz'
            · refine .inl ⟨rfl, ed, _, iv, sv, rfl, hed, rfl, rfl, fun p hp => ?_⟩
              have sq := same_new (o := .lst [.str "broken", iv, sv]) hp
              have sp := s5.trans sq
              obtain ⟨ki, u, nn, rfl, rfl, hu3⟩ := bk
              refine ⟨b, la, p, rfl, rfl, rfl, rfl, kwl.trans (KW.of sp), well_same w2' sp, tabs_same T2 sp, .inr ⟨?_, hD2.same sp, bkD ki nn, .lst (SqL.of upd_same) (.cons (.str _) (.cons (.int _) (.cons (.tup (SqT.of (sq _ _ hu3)) (dp_ints nn)) .nil))), bkD_shp, bkD_ne⟩⟩
              rw [chk_snoc hO.ch] at hc
              cases b with
              | false => rfl
              | true =>
                have := (hb.mp rfl).2
                rw [hc] at this
                cases this
            · intro p hp
              have sp := same_new (o := .lst [.str "told", .non]) hp
              exact ⟨b, la, p, rfl, rfl, rfl, rfl, kwl.trans ((KW.ofD kD).trans (KW.of sp)), well_same (well_D w2' hne kD) sp, tabs_same (tabs_D T2 hDD2 kD) sp, .inl ⟨hb.mpr ⟨hz1, by rw [← chk_snoc hO.ch]; exact hc⟩, upd_same, _, dX.same sp, (hSt.kw (hDb.same s4) (well_same hWb s4) (kl2.trans (KW.ofD kD))).same sp, ok_claim' hO hz1 hc⟩⟩
          | false =>
            refine ifN (by decide) ?_
            -- lift
            have hcs := hb3 rfl
            have hx0 : 0 < x.2.length := List.length_pos_iff.mpr hcs
            have hxl : qs.length = x.2.length := paired_len hs4
            refine ⟨_, rfl, _, rfl, cl, _, rfl, .inl (SqL.of (sa _ _ hclb)), ?_⟩
            rw [List.length_map]
            refine ⟨W, _, rfl, well_same hWb sa, by omega, by omega, fun Hm m km wm hm => ?_⟩
            have hm' : m < x.2.length := by omega
            have hcW : cl ≠ W := fun e => by
              obtain ⟨_, _, e1, _⟩ := hWb
              rw [e, e1] at hclb
              cases qs with
              | nil => simp at hclb
              | cons q qs => simp at hclb
            have hdW : d ≠ W := fun e => by
              obtain ⟨_, _, e1, _⟩ := hWb
              rw [e, e1] at hdb
              cases hdb
            have hclm := km _ _ (sa _ _ hclb) hcW
            have hdm := km _ _ (sa _ _ hdb) hdW
            have hsm : Paired (ClaimAt Hm) qs x.2 := paired_mono hs4 fun q _ _ h => km _ _ (sa _ _ (sb _ _ h)) fun e => by
              obtain ⟨_, _, e1, _⟩ := hWb
              have h' : H4 q = some (.tup _) := h
              have h2 := sb _ _ h'
              rw [e, e1] at h2
              cases h2
            have hDm := desk_W (hDb.same sa) (well_same hWb sa) km
            have hTm := tabs_W (tabs_same hTb sa) (well_same hWb sa) km
            have kwm := kwb.trans ((KW.of sa).trans (KW.ofW km))
            have hDDm := km _ _ (sa _ _ hDD) hne.symm
            refine ⟨_, rfl, _, rfl, _, rfl, m, rfl, cl, _, rfl, SqL.of hclm, fun pa hpa => ?_⟩
            have s1 := same_new (o := .lst (cutV (qs.map V.ref) none (some (m : Int)))) hpa
            refine ⟨_, rfl, _, rfl, _, _, rfl, rfl, ((m + 1 : Nat) : Int), rfl, cl, _, rfl, SqL.of (s1 _ _ hclm), fun pb hpb => ?_⟩
            have s2 := s1.new (o := .lst (cutV (qs.map V.ref) (some ((m + 1 : Nat) : Int)) none)) hpb
            refine ⟨pa, pb, _, _, rfl, rfl, same_new hpb _ _ upd_same, upd_same, ?_, fun l2 hl2 => ⟨(by show 2 ≤ sizeLine; decide), fun la hla => ⟨_, _, rfl, ?_⟩⟩⟩
            · rw [cutV_to, cutV_from, List.length_take, List.length_drop, List.length_map]
              exact le_line (by omega)
            rw [cutV_to, cutV_from] at *
            have s3 : Same Hm (upd (upd (upd (upd Hm pa (.lst ((qs.map V.ref).take m))) pb (.lst ((qs.map V.ref).drop (m + 1)))) l2 (.lst ((qs.map V.ref).take m ++ (qs.map V.ref).drop (m + 1)))) la (.lst [.ref d, .ref l2])) := (s2.new hl2).new hla
            have hSt : StandAt (upd (upd (upd (upd Hm pa (.lst ((qs.map V.ref).take m))) pb (.lst ((qs.map V.ref).drop (m + 1)))) l2 (.lst ((qs.map V.ref).take m ++ (qs.map V.ref).drop (m + 1)))) la (.lst [.ref d, .ref l2])) la (x.1, x.2.take m ++ x.2.drop (m + 1)) :=
              stand_put (d := d) (cl := l2) (qs := qs.take m ++ qs.drop (m + 1)) upd_same (s3 _ _ hdm) (same_new hla _ _ (by rw [upd_same, List.map_append, List.map_take, List.map_drop])) (paired_mono (paired_app (paired_take hsm m) (paired_drop hsm (m + 1))) fun _ _ _ h => s3 _ _ h)
            generalize upd (upd (upd (upd Hm pa (.lst ((qs.map V.ref).take m))) pb (.lst ((qs.map V.ref).drop (m + 1)))) l2 (.lst ((qs.map V.ref).take m ++ (qs.map V.ref).drop (m + 1)))) la (.lst [.ref d, .ref l2]) = Hl at *
            refine ⟨tabs_same hTm s3, fun H1' eN T1 => ?_⟩
            have hD1 := desk_N (hDm.same s3) eN
            have w1' := well_N (well_same wm s3) eN
            have hDD1 := eN _ _ (s3 _ _ hDDm) (fun _ z => by cases z)
            have kl1 : KW W D Hl H1' := KW.ofN eN
            have kwl := (kwm.trans (KW.of s3)).trans kl1
            refine ⟨_, rfl, D, dxD, _, rfl, hDD1, df_no _ (by decide +kernel), _, rfl, D, m, x, r, rfl, hD1, hm', by omega, fun H3' kD dX p hp => ?_⟩
            have sp := same_new (o := .lst [.str "told", .non]) hp
            exact ⟨true, la, p, rfl, rfl, rfl, rfl, kwl.trans ((KW.ofD kD).trans (KW.of sp)), well_same (well_D w1' hne kD) sp, tabs_same (tabs_D T1 hDD1 kD) sp, .inl ⟨rfl, upd_same, _, dX.same sp, (hSt.kw (hDm.same s3) (well_same wm s3) (kl1.trans (KW.ofD kD))).same sp, ok_lift' hO⟩⟩
    · rintro σ' H' ⟨b, la, to, e2, e10, e11, e12, kw, w', t', alt⟩
      refine ⟨_, e12, (by show 2 ≤ sizeLine; decide), fun p hp => ?_⟩
      have sp := same_new (o := .lst [.str "told", .non]) hp
      have dtold : Dp K (upd H' p (.lst [.str "told", .non])) (.ref p) toldD := .lst (SqL.of upd_same) (.cons (.str _) (.cons .non .nil))
      have stold : Shp 4 toldD := ⟨by decide +kernel, by decide +kernel⟩
      rcases alt with ⟨rfl, hto, x', hD', hS', hO'⟩ | ⟨rfl, hD', dd, hdd, sdd, edd⟩
      · refine ⟨toldD, toldD, .lst (SqL.of (sp _ _ hto)) (.cons (.str _) (.cons .non .nil)), dtold, stold.shaped (by decide), stold.shaped (by decide), _, e10, rfl, _, rfl, ?_⟩
        refine ifN (by rw [eqv_told]; rfl) ?_
        refine ⟨_, e10, _, rfl, ifY rfl ⟨_, e11, _, e10, (by show 2 ≤ sizeLine; decide), fun q hq => ?_⟩⟩
        have sq := sp.trans (same_new (o := .lst [.ref la, .bl true]) hq)
        exact qA _ q la x' (kw.trans (KW.of sq)) (well_same w' sq) (tabs_same t' sq) (hD'.same sq) (hS'.same sq) hO' upd_same
      · refine ⟨dd, toldD, Dp_same sp hdd, dtold, sdd.shaped (by decide), stold.shaped (by decide), _, e10, rfl, _, rfl, ?_⟩
        refine ifN (by rw [edd]; rfl) ?_
        refine ⟨_, e10, _, rfl, ifN rfl ⟨_, e2, _, e10, (by show 2 ≤ sizeLine; decide), fun q hq => ?_⟩⟩
        have sq := sp.trans (same_new (o := .lst [.ref a, .bl false]) hq)
        exact qR _ q (kw.trans (KW.of sq)) (well_same w' sq) (tabs_same t' sq) (hD'.same sq) upd_same
end
end Ky
end

section
set_option Elab.async false
set_option linter.all false
set_option maxRecDepth 100000
set_option maxHeartbeats 2000000
namespace Ky
open PySem PySem.Spec PyProof.Rows L2 LamX
theorem cutV_init {xs : List V} {v : V} : cutV (xs ++ [v]) none (some (-1)) = xs := by
  unfold cutV
  have e1 : HT.sIx (xs ++ [v]).length 0 none = 0 := rfl
  have e2 : HT.sIx (xs ++ [v]).length (xs ++ [v]).length (some (-1)) = xs.length := by
    show (if (-1 : Int) < 0 then ((-1 : Int) + ((xs ++ [v]).length : Int)).toNat else min (-1 : Int).toNat (xs ++ [v]).length) = _
    rw [if_pos (by decide), List.length_append]
    show ((-1 : Int) + ((xs.length + 1 : Nat) : Int)).toNat = xs.length
    omega
  rw [e1, e2]
  simp
theorem paired_snoc_inv {α β : Type} {F : α → β → Prop} : ∀ {l : List α} {m : List β} {y : β}, Paired F l (m ++ [y]) → ∃ l0 x, l = l0 ++ [x] ∧ Paired F l0 m ∧ F x y
  | _, [], _, .cons (a := a) h .nil => ⟨[], a, rfl, .nil, h⟩
  | _, _ :: m, _, .cons (a := a) h t => by
    obtain ⟨l0, x, e, p, f⟩ := paired_snoc_inv t
    exact ⟨a :: l0, x, by rw [e]; rfl, .cons h p, f⟩
theorem refs_inj : ∀ {as bs : List Addr}, as.map V.ref = bs.map V.ref → as = bs
  | [], [], _ => rfl
  | [], _ :: _, h => by cases h
  | _ :: _, [], h => by cases h
  | a :: as, b :: bs, h => by
    obtain ⟨h1, h2⟩ := List.cons.inj h
    rw [V.ref.inj h1, refs_inj h2]
/-- what stands at each turn of the law's loop -/
structure RI (TT : List (Addr × Str)) (CT CS CD : Addr) (H0 : Hp) (W D n : Addr) (ns : List Str) (i : Nat) (H : Hp) (S : Addr) (st : List Snap) : Prop where
  well : WellAt H W
  desk : DeskAt CT CS CD H D st
  tabs : Tabs TT H
  nms : H n = some (.lst (ns.map V.str))
  stands : ∃ as : List Addr, H S = some (.lst (as.map V.ref)) ∧ Paired (StandAt H) as st.reverse
  ok : ∀ x ∈ st, Ok ns i x
  len : st.length ≤ i + 1
  bot : ∃ st0, st = st0 ++ [([], [])]
  kw : KW W D H0 H
section
variable {TT : List (Addr × Str)} {CT CS CD CB CU CI CN : Addr} {K : PySem.W.Frag} {mg : Str → Option Value} {H0 H H' : Hp} {W D n S S' : Addr} {ns : List Str} {i j : Nat} {st : List Snap} {x : Snap} {r : List Snap} {σ : L2.St} {Q : VK}
theorem Ok.mono {x : Snap} (o : Ok ns i x) (h : i ≤ j) : Ok ns j x := ⟨o.w, o.ch, o.inn, Nat.le_trans o.len h⟩
theorem RI.same (R : RI TT CT CS CD H0 W D n ns i H S st) (s : Same H H') : RI TT CT CS CD H0 W D n ns i H' S st := by
  obtain ⟨as, h1, h2⟩ := R.stands
  exact ⟨well_same R.well s, R.desk.same s, tabs_same R.tabs s, s _ _ R.nms, ⟨as, s _ _ h1, paired_mono h2 fun _ _ _ h => h.same s⟩, R.ok, R.len, R.bot, R.kw.trans (KW.of s)⟩
theorem RI.mono (R : RI TT CT CS CD H0 W D n ns i H S st) (h : i ≤ j) : RI TT CT CS CD H0 W D n ns j H S st :=
  ⟨R.well, R.desk, R.tabs, R.nms, R.stands, fun x hx => (R.ok x hx).mono h, Nat.le_trans R.len (Nat.succ_le_succ h), R.bot, R.kw⟩
/-- a list of references, or of texts, is not the well -/
theorem refs_ne {as : List Addr} {a : Addr} (w : WellAt H W) (h : H a = some (.lst (as.map V.ref))) : a ≠ W := fun e => by
  obtain ⟨_, _, e1, _⟩ := w
  rw [e, e1] at h
  cases as with
  | nil => simp at h
  | cons q qs => simp at h
theorem strs_ne {zs : List Str} {a : Addr} (w : WellAt H W) (h : H a = some (.lst (zs.map V.str))) : a ≠ W := fun e => by
  obtain ⟨_, _, e1, _⟩ := w
  rw [e, e1] at h
  cases zs with
  | nil => simp at h
  | cons q qs => simp at h
theorem lst_neD {st : List Snap} {a : Addr} {xs : List V} (d : DeskAt CT CS CD H D st) (h : H a = some (.lst xs)) : a ≠ D := fun e => by
  obtain ⟨_, _, e1, _⟩ := d
  rw [e, e1] at h
  cases h
/-- behind a step that keeps all but the well, the desk and the tables -/
theorem RI.step {st' : List Snap} (R : RI TT CT CS CD H0 W D n ns i H S st) (k : KW W D H H') (w : WellAt H' W) (t : Tabs TT H') : H' n = some (.lst (ns.map V.str)) ∧ (∃ as : List Addr, H' S = some (.lst (as.map V.ref)) ∧ Paired (StandAt H') as st.reverse) ∧ KW W D H0 H' := by
  obtain ⟨as, h1, h2⟩ := R.stands
  exact ⟨k _ _ R.nms (strs_ne R.well R.nms) (lst_neD R.desk R.nms) (fun _ z => by cases z), ⟨as, k _ _ h1 (refs_ne R.well h1) (lst_neD R.desk h1) (fun _ z => by cases z), paired_mono h2 fun _ _ _ h => h.kw R.desk R.well k⟩, R.kw.trans k⟩
theorem RI.take (R : RI TT CT CS CD H0 W D n ns i H S st) (k : KeepD W H H') (w : WellAt H' W) : RI TT CT CS CD H0 W D n ns i H' S st := by
  obtain ⟨h1, h2, h3⟩ := R.step (st' := st) (KW.ofW k) w (tabs_W R.tabs R.well k)
  exact ⟨w, desk_W R.desk R.well k, tabs_W R.tabs R.well k, h1, h2, R.ok, R.len, R.bot, h3⟩
/-- _law_seen(desk) != _law_stand(stands[-1], len(stands) - 1) -/
theorem rd_check (R : RI TT CT CS CD H0 W D n ns i H S (x :: r)) (hn4 : ns.length = 4) (h6 : σ[6]? = some (some (.ref D))) (h2 : σ[2]? = some (some (.ref S))) (q : ∀ H', Same H H' → Q (.bl false) H') :
    tOp (rNeD K) (tCall (spSeen K CT CS CD) [] C8.E0 (tCons (tVar 6) tNil))
      (tCall (spStand K) [] C8.E0 (tCons (tOp (rIxL K) (tVar 2) (tUn (rU fun i => V.int (-i)) (tC (.int 1)))) (tCons (tOp (rI0 fun i j => V.int (i - j)) (tCB (Evl.rLenS K) (tCons (tVar 2) tNil)) (tC (.int 1))) tNil))) σ H Q := by
  have hO := R.ok x List.mem_cons_self
  have hx4 := hO.four hn4
  refine ⟨_, h6, D, x, r, rfl, R.desk, hO.w, by omega, fun H1 p ns1 s1 pm1 so1 d1 => ?_⟩
  obtain ⟨as, hS, hp⟩ := (R.same s1).stands
  rw [List.reverse_cons] at hp
  obtain ⟨bs, a, rfl, hb, ha⟩ := paired_snoc_inv hp
  have hl : bs.length = r.length := by rw [paired_len hb, List.length_reverse]
  refine ⟨_, h2, 1, rfl, S, _, -1, .ref a, rfl, rfl, SqL.of hS, by rw [List.map_append]; exact atI_last _ _, ?_⟩
  refine ⟨_, h2, S, _, rfl, .inl (SqL.of hS), _, _, rfl, rfl, a, x, r.length, ?_, ha, hO.w, by omega, fun H2 p2 ns2 s2 pm2 so2 d2 => ?_⟩
  · rw [List.length_map, List.length_append, hl]
    show [V.ref a, V.int ((r.length + 1 : Nat) - 1)] = [V.ref a, V.int r.length]
    congr 2
    simp
  · have e : ns1 = ns2 := sorted_one (pm1.trans pm2.symm) so1 so2
    subst e
    have sh := seen_shp (k := r.length) hO.w fun z hz => pm1.mem_iff.mp hz
    refine ⟨_, _, Dp_same s2 d1, d2, sh.shaped (by decide), sh.shaped (by decide), ?_⟩
    rw [SeqAt.eqv_refl _ sh.1]
    exact q _ (s1.trans s2)
/-- _law_ended(lambda: desk.undo()) -/
theorem rd_undo (T : DkT K mg CT CS CD) (hDk : DeskAt CT CS CD H D (x :: r)) (hT : Tabs TT H) (h6 : σ[6]? = some (some (.ref D)))
    (q1 : r = [] → ∀ (H' : Hp) (p : Addr), ExtN H H' → Tabs TT H' → DeskAt CT CS CD H' D (x :: r) → H' p = some (.lst [.str "nothing"]) → Q (.ref p) H')
    (q2 : r ≠ [] → ∀ (H' : Hp) (p : Addr), KeepX D H H' → Tabs TT H' → DeskAt CT CS CD H' D r → H' p = some (.lst [.str "told", .non]) → Q (.ref p) H') :
    tLam TT (TTe CB CU CI CN) (fun E => tMeth CD "undo" (spUndo CT CS CD CN) [] E (tVar 6) tNil) σ H Q := by
  obtain ⟨dx, sh, hD, hSh⟩ := id hDk
  refine ⟨hT, fun H1 eN T1 => ?_⟩
  have hD1 := eN _ _ hD (fun _ z => by cases z)
  have hDk1 := desk_N hDk eN
  refine ⟨_, h6, D, dx, _, rfl, hD1, df_no _ (by decide +kernel), D, x, r, rfl, hDk1, fun hr => ?_, fun hr H2 k2 d2 p hp => ?_⟩
  · refine .inr (.inr (.inr ⟨rfl, fun p hp => ?_⟩))
    have sp := same_new (o := .lst [.str "nothing"]) hp
    exact q1 hr _ p (eN.trans (ExtN.of sp)) (tabs_same T1 sp) (hDk1.same sp) upd_same
  · have sp := same_new (o := .lst [.str "told", .non]) hp
    exact q2 hr _ p (fun b o e h1 h2 => sp _ _ (k2 _ _ (eN _ _ e h2) h1)) (tabs_same (tabs_D T1 hD1 k2) sp) (d2.same sp) upd_same
def noD : PyData := .list [.str "nothing"]
theorem told_shp : Shp 4 toldD := ⟨by decide +kernel, by decide +kernel⟩
theorem no_shp : Shp 4 noD := ⟨by decide +kernel, by decide +kernel⟩
theorem dp_told {p : Addr} (h : H p = some (.lst [.str "told", .non])) : Dp K H (.ref p) toldD := .lst (SqL.of h) (.cons (.str _) (.cons .non .nil))
theorem dp_no {p : Addr} (h : H p = some (.lst [.str "nothing"])) : Dp K H (.ref p) noD := .lst (SqL.of h) (.cons (.str _) .nil)
end
end Ky
end

section
set_option Elab.async false
set_option linter.all false
set_option maxRecDepth 100000
set_option maxHeartbeats 2000000
namespace Ky
open PySem PySem.Spec PyProof.Rows L2 LamX
section
variable {X : Cx}
theorem pe_cNo {k j : Nat} {x : Str} {sp : Sp} {dvs : List V} {p pos : Pos} (c : C8.Cal X.prog X.w X.K X.mg X.base k x sp dvs) (hr : Room j X.A) (hk : k ≤ j) (hg : Gl X x) (hdb : (x == ("__debug__" : Str)) = false := by decide) :
    PE X (.Call (.Name x p) [] [] pos) (tCall sp dvs C8.E0 tNil) := by
  obtain ⟨f, fd, ps, ds, F, hm, kp, b, d⟩ := c.ex
  exact pe_call0 F (hr.mono hk) hg hm kp b d C8.pass0 hdb
/-- lists of other lengths -/
def rEqLen (K : PySem.W.Frag) : R2 := fun x y H Q => ∃ (a b : Addr) (xs ys : List V), x = .ref a ∧ y = .ref b ∧ SqL K H a xs ∧ SqL K H b ys ∧ xs.length ≠ ys.length ∧ Q (.bl false) H
theorem op_eqLen (hu : X.A.units < cLine) : OpR X (compareOp .Eq) (rEqLen X.K) := by
  intro pins s σ H x y v u Q I rx ry h
  obtain ⟨a, b, xs, ys, rfl, rfl, ha, hb, hne, q⟩ := h
  cases (show v = Value.ref a from rx)
  cases (show u = Value.ref b from ry)
  obtain ⟨us, r1, p1, _⟩ := I.list ha
  obtain ⟨ws, r2, p2, _⟩ := I.list hb
  have hsz : (us.toArray.size != ws.toArray.size) = true := by
    rw [List.size_toArray, List.size_toArray, ← r1.length, ← r2.length]
    simpa using hne
  exact SeqAt.RcAt.lists_lengths p1.isList p2.isList hsz hu X.prog X.w _ _ ⟨.bl false, H, I, rfl, q⟩
end
section
variable {P : Program} {w : World} {K : PySem.W.Frag} {mg : Str → Option Value} {base : Heap} {f CT CS CD CB CU CI CN gE fD : Addr} {fd fdE fdD : FuncData}
abbrev NRt : List Str := ["_law_well_here", "_law_names_here", "_law_stands", "_law_turn", "_law_due", "_law_behind", "_law_desk"]
theorem scRt : FnScope NRt ["_law_well_here"] (defScope sRight) := ⟨rfl, rfl, rfl, by decide +kernel, rfl, by decide +kernel, by decide +kernel⟩
def spRight (TT : List (Addr × Str)) : Sp := fun vs H Q _ => ∃ (W : Addr), vs = [.ref W] ∧ WellAt H W ∧ Tabs TT H ∧ ∀ H', (∀ b o, H b = some o → b ≠ W → (∀ ps, o ≠ .tbl ps) → H' b = some o) → Tabs TT H' → Q (.bl true) H'
theorem ok_right {c Pr : Addr} {TT : List (Addr × Str)} (F : FunC K "_law_right" "_law_right" sRight f fd c) (hm : mg "_law_right" = some (.ref f)) (B : Bt mg)
    (C1 : C8.Cal P w K mg base 1 "_law_take" spTake []) (C3 : C8.Cal P w K mg base 3 "_law_names" spNm []) (Csh : C8.Cal P w K mg base 1 "_law_sheets" spSheets [])
    (Cse : C8.Cal P w K mg base 6 "_law_seen" (spSeen K CT CS CD) []) (Cst : C8.Cal P w K mg base 1 "_law_stand" (spStand K) []) (Cdn : C8.Cal P w K mg base 15 "_law_done" (spDone TT CT CS CD) [])
    (Fe : L2.Fun K "_law_ended" "_law_ended" sEnded gE fdE) (hmE : mg "_law_ended" = some (.ref gE)) (XT : ExT K mg CB CU CI CN)
    (TB : TabB base mg c Pr) (hmT : (Pr, lamQ "_law_right") ∈ TT) (hu : ∀ p ∈ TT, p.1 = Pr → p.2 = lamQ "_law_right")
    (T : DkT K mg CT CS CD) (M : Mk K CD fD) (bD : L2.Binds K fdD ["self"] []) (FD : FnOk P w K mg base L2.CX0 3 fD fdD ["self"] (spDkInit CT CS CD))
    (MU : MtX (L2.CX P w) P w K mg base 1 CD "undo" (spUndo CT CS CD CN)) : C8.Cal P w K mg base 16 "_law_right" (spRight TT) [] := by
  refine ⟨f, fd, ["_law_well_here"], [], F.ok (k := 15) scRt (fun vs H Q E h => ?_) (fun A outer s H vs Q E hr h => ?_), hm, F.kp, F.fn.binds (fun _ _ _ _ _ _ us hl => match us, hl with | [_], _ => rfl), .nil⟩
  · obtain ⟨W, rfl, _⟩ := h
    rfl
  · obtain ⟨W, rfl, hW, hT, q⟩ := h
    refine ⟨_, pss_cons (ps_asg (pe_tup (pa_cons (C8.pe_c C3 hr (by decide) (by rfl) (pa_cons (pv 0) (pa_cons pe_int pa_nil))) (pa_cons (pe_make0 M FD (hr.mono (by decide)) (by rfl) T.mgD bD .nil pass0) (pa_cons (pe_lst (pa_cons (pe_lst (pa_cons pe_dnewK (pa_cons (pe_lst pa_nil) pa_nil))) pa_nil)) pa_nil))))
        (pg_tup rfl (pgs_cons (pg_name (i := 1) scRt.nd rfl (.inl rfl)) (pgs_cons (pg_name (i := 6) scRt.nd rfl (.inr rfl)) (pgs_cons (pg_name (i := 2) scRt.nd rfl (.inl rfl)) pgs_nil)))))
      (pss_cons (ps_for PassesOwn.never rfl (pi_range1 (by rfl) B.range (pa_cons (pe_op op_add pe_int (C8.pe_c C1 hr (by decide) (by rfl) (pa_cons (pv 0) (pa_cons pe_int pa_nil)))) pa_nil)) (pg_name (i := 3) scRt.nd rfl (.inl rfl))
        (C8.pss_cut (ps_if (pt_cmpR op_eq (C8.pe_c C1 hr (by decide) (by rfl) (pa_cons (pv 0) (pa_cons pe_int pa_nil))) pe_int (nomark _))
            (pss_cons (ps_set (i := 4) scRt.nd rfl (Or.inl rfl) (pe_ifExp (pt_cmpR op_gt (pe_callB (r := Evl.rLenS K) call_len_seq (by rfl) B.len PySem.boot_len (pa_cons (pv 2) pa_nil)) pe_int (nomark _)) (pe_lst (pa_cons pe_str (pa_cons pe_non pa_nil))) (pe_lst (pa_cons pe_str pa_nil))))
            (pss_cons (ps_if (pt_cmpR (op_neD hr.units) (pe_lamF (T := TT) (k := 12) (t := fun E => tMeth CD "undo" (spUndo CT CS CD CN) [] E (tVar 6) tNil) Fe hmE XT (by rfl) TB hmT hu (hr.mono (by decide)) (by decide +kernel) (by rfl) (by intros; rfl)
                (fun A outer s H E f c' hr2 => pe_mX0 MU hr2 (by decide) (pv 6) (passes_call (takes_of rfl rfl rfl rfl) (fun _ _ _ _ h => h)))) (pv 4) (nomark _)) (pss_one (ps_ret pe_bl)) pss_nil)
            (pss_one (ps_set (i := 2) scRt.nd rfl (Or.inl rfl) (pe_ifExp (pt_cmpR op_gt (pe_callB (r := Evl.rLenS K) call_len_seq (by rfl) B.len PySem.boot_len (pa_cons (pv 2) pa_nil)) pe_int (nomark _)) (pe_slice sl_list (pv 2) po_none (po_some (pe_un un_neg pe_int))) (pv 2))))))
            (pss_cons (ps_set (i := 5) scRt.nd rfl (Or.inl rfl) (C8.pe_c Cdn hr (by decide) (by rfl) (pa_cons (pv 0) (pa_cons (pv 6) (pa_cons (pe_ix ix_list (pv 2) (pe_un un_neg pe_int) (fun _ _ => rfl)) (pa_cons (pv 1) (pa_cons (pe_cNo Csh hr (by decide) (by rfl)) pa_nil)))))))
            (pss_cons (ps_if (pt_cmpR (op_eqLen (Nat.lt_of_le_of_lt (Nat.le_add_right _ 64) hr.units)) (pv 5) (pe_lst pa_nil) (nomark _)) (pss_one (ps_ret pe_bl)) pss_nil)
            (pss_one (ps_if (pt_val (pe_ix ix_list (pv 5) pe_int (fun _ _ => rfl))) (pss_one (ps_set (i := 2) scRt.nd rfl (Or.inl rfl) (pe_op op_cat (pv 2) (pe_lst (pa_cons (pe_ix ix_list (pv 5) pe_int (fun _ _ => rfl)) pa_nil))))) pss_nil)))))
        (pss_one (ps_if (pt_cmpR (op_neD hr.units) (C8.pe_c Cse hr (by decide) (by rfl) (pa_cons (pv 6) pa_nil)) (C8.pe_c Cst hr (by decide) (by rfl) (pa_cons (pe_ix ix_list (pv 2) (pe_un un_neg pe_int) (fun _ _ => rfl)) (pa_cons (pe_op op_sub (pe_callB (r := Evl.rLenS K) call_len_seq (by rfl) B.len PySem.boot_len (pa_cons (pv 2) pa_nil)) pe_int) pa_nil))) (nomark _))
            (pss_one (ps_ret pe_bl)) pss_nil))))
      (pss_cons (ps_for PassesOwn.never rfl (pi_range1 (by rfl) B.range (pa_cons (pe_op op_sub (pe_callB (r := Evl.rLenS K) call_len_seq (by rfl) B.len PySem.boot_len (pa_cons (pv 2) pa_nil)) pe_int) pa_nil)) (pg_name (i := 3) scRt.nd rfl (.inl rfl))
        (pss_cons (ps_set (i := 2) scRt.nd rfl (Or.inl rfl) (pe_slice sl_list (pv 2) po_none (po_some (pe_un un_neg pe_int))))
        (pss_one (ps_if (PW.pt (pw_or (pt_cmpR op_notN (pe_mX0 MU hr (by decide) (pv 6) passE0) pe_non (nomark _)) (pw_or1 (pt_cmpR (op_neD hr.units) (C8.pe_c Cse hr (by decide) (by rfl) (pa_cons (pv 6) pa_nil)) (C8.pe_c Cst hr (by decide) (by rfl) (pa_cons (pe_ix ix_list (pv 2) (pe_un un_neg pe_int) (fun _ _ => rfl)) (pa_cons (pe_op op_sub (pe_callB (r := Evl.rLenS K) call_len_seq (by rfl) B.len PySem.boot_len (pa_cons (pv 2) pa_nil)) pe_int) pa_nil))) (nomark _)))))
            (pss_one (ps_ret pe_bl)) pss_nil))))
      (pss_one (ps_ret (pe_and (pe_cmpR (op_eqD hr.units) (pe_lamF (T := TT) (k := 12) (t := fun E => tMeth CD "undo" (spUndo CT CS CD CN) [] E (tVar 6) tNil) Fe hmE XT (by rfl) TB hmT hu (hr.mono (by decide)) (by decide +kernel) (by rfl) (by intros; rfl)
                (fun A outer s H E f c' hr2 => pe_mX0 MU hr2 (by decide) (pv 6) (passes_call (takes_of rfl rfl rfl rfl) (fun _ _ _ _ h => h)))) (pe_lst (pa_cons pe_str pa_nil)) (nomark _))
          (pe_one (pe_cmpR (op_eqD hr.units) (C8.pe_c Cse hr (by decide) (by rfl) (pa_cons (pv 6) pa_nil)) (pe_lst (pa_cons (pe_tup pa_nil) (pa_cons (pe_lst pa_nil) (pa_cons (pe_tup pa_nil) (pa_cons pe_int pa_nil))))) (nomark _)))))))), ?_⟩
    refine ⟨_, rfl, W, rfl, hW, fun H1 n ns k1 w1 hfn hn hn4 hnd hnm => ?_⟩
    refine fun D dx hD hdx hdne => ⟨D, dx, rfl, upd_same, fun H2 k2 desk2 => ⟨rfl, ?_⟩⟩
    have wA : WellAt (upd (upd H1 dx (.own D)) D (.ins CD dx [])) W := by
      have w' := wellNew (o := .own D) w1 hdx
      exact wellNew w' (by rw [upd_ne hdne.symm]; exact hD)
    have hWD : W ≠ D := fun e => by
      obtain ⟨_, _, e1, _⟩ := w1
      rw [← e, e1] at hD
      cases hD
    have sA : Same H1 (upd (upd H1 dx (.own D)) D (.ins CD dx [])) := (same_new hdx).new (by rw [upd_ne hdne.symm]; exact hD)
    have w2 := well_D wA hWD k2
    have hT1 := tabs_W hT hW k1
    have hT2 : Tabs TT H2 := tabs_D (tabs_same hT1 sA) upd_same k2
    have kw2 : KW W D H H2 := (KW.ofW k1).trans ((KW.of sA).trans (KW.ofD k2))
    have hnD : n ≠ D := fun e => by rw [e, hD] at hn; cases hn
    have hn2 : H2 n = some (.lst (ns.map V.str)) := k2 _ _ (sA _ _ hn) hnD
    refine fun d0 hd0 => ⟨Nat.zero_le _, fun c0 hc0 => ⟨(by show 2 ≤ sizeLine; decide), fun a0 ha0 => ⟨(by show 1 ≤ sizeLine; decide), fun S0 hS0 => ⟨(by show 3 ≤ sizeLine; decide), fun p0 hp0 => ?_⟩⟩⟩⟩
    have s3 : Same H2 (upd (upd (upd (upd (upd H2 d0 (.dK [])) c0 (.lst [])) a0 (.lst [.ref d0, .ref c0])) S0 (.lst [.ref a0])) p0 (.tup [.ref n, .ref D, .ref S0])) := ((((same_new hd0).new hc0).new ha0).new hS0).new hp0
    have hst : StandAt (upd (upd (upd (upd (upd H2 d0 (.dK [])) c0 (.lst [])) a0 (.lst [.ref d0, .ref c0])) S0 (.lst [.ref a0])) p0 (.tup [.ref n, .ref D, .ref S0])) a0 ([], []) :=
      ⟨d0, c0, [], same_new hp0 _ _ (same_new hS0 _ _ upd_same), same_new hp0 _ _ (same_new hS0 _ _ (same_new ha0 _ _ (same_new hc0 _ _ upd_same))), same_new hp0 _ _ (same_new hS0 _ _ (same_new ha0 _ _ upd_same)), .nil⟩
    have hS3 : (upd (upd (upd (upd (upd H2 d0 (.dK [])) c0 (.lst [])) a0 (.lst [.ref d0, .ref c0])) S0 (.lst [.ref a0])) p0 (.tup [.ref n, .ref D, .ref S0])) S0 = some (.lst [.ref a0]) := same_new hp0 _ _ upd_same
    refine ⟨p0, _, rfl, SqT.of upd_same, rfl, _, _, rfl, _, _, rfl, _, _, rfl, rfl, ?_⟩
    have R0 : RI TT CT CS CD H W D n ns 0 (upd (upd (upd (upd (upd H2 d0 (.dK [])) c0 (.lst [])) a0 (.lst [.ref d0, .ref c0])) S0 (.lst [.ref a0])) p0 (.tup [.ref n, .ref D, .ref S0])) S0 [([], [])] :=
      ⟨well_same w2 s3, desk2.same s3, tabs_same hT2 s3, s3 _ _ hn2, ⟨[a0], hS3, .cons hst .nil⟩, fun x hx => by
        rw [List.mem_singleton.mp hx]
        exact ⟨⟨.nil, fun _ h => (by cases h), fun _ h => (by cases h), fun _ h => (by cases h)⟩, rfl, fun _ h => (by cases h), Nat.le_refl _⟩, Nat.le_refl _, ⟨[], rfl⟩, kw2.trans (KW.of s3)⟩
    generalize upd (upd (upd (upd (upd H2 d0 (.dK [])) c0 (.lst [])) a0 (.lst [.ref d0, .ref c0])) S0 (.lst [.ref a0])) p0 (.tup [.ref n, .ref D, .ref S0]) = H3 at *
    refine ⟨_, rfl, W, _, rfl, R0.well, by decide, by decide, fun H4 m k4 w4 hm => ⟨_, _, rfl, rfl, _, rfl, by omega, by omega, ?_⟩⟩
    have R4 := R0.take k4 w4
    refine for_range (n := (1 + (m : Int)).toNat) (fun i σ H' => ∃ (S : Addr) (st : List Snap) (v3 v4 v5 : Option V), σ = [some (.ref W), some (.ref n), some (.ref S), v3, v4, v5, some (.ref D)] ∧ RI TT CT CS CD H W D n ns i H' S st) ⟨S0, _, none, none, none, rfl, R4⟩ (fun i σ H5 hi pv => ?_) (fun σ H5 pv => ?_)
    · obtain ⟨S, st, v3, v4, v5, rfl, R5⟩ := pv
      have hi16 : i ≤ 16 := by omega
      refine ⟨fun σ' H' => ∃ (S : Addr) (st : List Snap) (v3 v4 v5 : Option V), σ' = [some (.ref W), some (.ref n), some (.ref S), v3, v4, v5, some (.ref D)] ∧ RI TT CT CS CD H W D n ns (i + 1) H' S st, ?_, ?_⟩
      · refine ⟨_, rfl, W, _, rfl, R5.well, by decide, by decide, fun H6 t k6 w6 ht => ⟨rfl, _, rfl, ?_⟩⟩
        have R6 := R5.take k6 w6
        clear R5
        obtain ⟨st0, e0⟩ := id R6.bot
        cases st with
        | nil => cases st0 <;> cases e0
        | cons x r =>
        obtain ⟨as, hS, hp⟩ := id R6.stands
        rw [List.reverse_cons] at hp
        obtain ⟨bs, a, rfl, hb, ha⟩ := paired_snoc_inv hp
        have hbl : bs.length = r.length := by rw [paired_len hb, List.length_reverse]
        have hSm : H6 S = some (.lst (bs.map V.ref ++ [.ref a])) := by rw [hS, List.map_append]; rfl
        have hln : (bs.map V.ref ++ [V.ref a]).length = r.length + 1 := by simp [hbl]
        by_cases h0 : V.int (t : Int) = V.int 0
        · refine ifY (decide_eq_true h0) ?_
          refine ⟨_, rfl, S, _, rfl, .inl (SqL.of hSm), _, _, rfl, rfl, _, rfl, ?_⟩
          by_cases hr0 : r = []
          · refine ifN (decide_eq_false (by rw [hln, hr0]; decide)) ?_
            refine ⟨(by show 1 ≤ sizeLine; decide), fun du hdu => ?_⟩
            have s7 := same_new (o := .lst [.str "nothing"]) hdu
            have R7 := R6.same s7
            have hdu7 : upd H6 du (.lst [.str "nothing"]) du = some (.lst [.str "nothing"]) := upd_same
            generalize upd H6 du (.lst [.str "nothing"]) = H7 at *
            refine rd_undo T R7.desk R7.tabs rfl (fun _ H8 p eN t8 d8 hp8 => ?_) (fun hne => absurd hr0 hne)
            refine ⟨_, rfl, noD, noD, dp_no hp8, dp_no (eN _ _ hdu7 (fun _ z => by cases z)), no_shp.shaped (by decide), no_shp.shaped (by decide), _, rfl, ifN (by decide +kernel) ?_⟩
            have hS8 := eN _ _ (s7 _ _ hSm) (fun _ z => by cases z)
            refine ⟨_, rfl, S, _, rfl, .inl (SqL.of hS8), _, _, rfl, rfl, _, rfl, ifN (decide_eq_false (by rw [hln, hr0]; decide)) ⟨_, rfl, ?_⟩⟩
            have w8 := well_N R7.well eN
            obtain ⟨g1, g2, g3⟩ := R7.step (st' := x :: r) (KW.ofN eN) w8 t8
            exact ⟨S, x :: r, _, _, _, rfl, (⟨w8, d8, t8, g1, g2, R7.ok, R7.len, R7.bot, g3⟩ : RI TT CT CS CD H W D n ns i H8 S (x :: r)).mono (Nat.le_succ i)⟩
          · have hr1 : 0 < r.length := List.length_pos_iff.mpr hr0
            refine ifY (decide_eq_true (by rw [hln]; omega)) ?_
            refine ⟨(by show 2 ≤ sizeLine; decide), fun du hdu => ?_⟩
            have s7 := same_new (o := .lst [.str "told", .non]) hdu
            have R7 := R6.same s7
            have hdu7 : upd H6 du (.lst [.str "told", .non]) du = some (.lst [.str "told", .non]) := upd_same
            generalize upd H6 du (.lst [.str "told", .non]) = H7 at *
            refine rd_undo T R7.desk R7.tabs rfl (fun hz => absurd hz hr0) (fun _ H8 p kX t8 d8 hp8 => ?_)
            have w8 := well_X R7.well (desk_ne R7.desk R7.well) kX
            obtain ⟨g1, ⟨as8, g2, g2p⟩, g3⟩ := R7.step (st' := r) (KW.ofX kX) w8 t8
            have hS7 := s7 _ _ hSm
            have hS8 : H8 S = some (.lst (bs.map V.ref ++ [.ref a])) := kX _ _ hS7 (lst_neD R7.desk hS7) (fun _ z => by cases z)
            refine ⟨_, rfl, toldD, toldD, dp_told hp8, dp_told (kX _ _ hdu7 (lst_neD R7.desk hdu7) (fun _ z => by cases z)), told_shp.shaped (by decide), told_shp.shaped (by decide), _, rfl, ifN (by decide +kernel) ?_⟩
            refine ⟨_, rfl, S, _, rfl, .inl (SqL.of hS8), _, _, rfl, rfl, _, rfl, ifY (decide_eq_true (by rw [hln]; omega)) ?_⟩
            refine ⟨_, rfl, 1, rfl, -1, rfl, S, _, rfl, SqL.of hS8, fun S9 hS9 => ?_⟩
            rw [cutV_init]
            have s9 := same_new (o := .lst (bs.map V.ref)) hS9
            refine ⟨S9, r, _, _, _, rfl, ?_⟩
            have hb8 : Paired (StandAt H8) bs r.reverse := paired_mono hb fun _ _ _ h => (h.same s7).kw R7.desk R7.well (KW.ofX kX)
            have bt : ∃ st0, r = st0 ++ [([], [])] := by
              cases st0 with
              | nil =>
                rw [List.nil_append] at e0
                exact absurd (List.cons.inj e0).2 hr0
              | cons y st1 => exact ⟨st1, (List.cons.inj e0).2⟩
            exact (⟨well_same w8 s9, d8.same s9, tabs_same t8 s9, s9 _ _ g1, ⟨bs, upd_same, paired_mono hb8 fun _ _ _ h => h.same s9⟩, fun y hy => R7.ok y (List.mem_cons_of_mem _ hy), Nat.le_trans (Nat.le_succ _) R7.len, bt, g3.trans (KW.of s9)⟩ : RI TT CT CS CD H W D n ns i _ S9 r).mono (Nat.le_succ i)
        · refine ifN (decide_eq_false h0) ?_
          refine ⟨_, rfl, _, rfl, _, rfl, 1, rfl, S, _, -1, .ref a, rfl, rfl, SqL.of hSm, atI_last _ _, _, rfl, rfl, fun sh hsh => ?_⟩
          have s7 := same_new (o := .lst shTs) hsh
          have R7 := R6.same s7
          have hsh7 : upd H6 sh (.lst shTs) sh = some (.lst shTs) := upd_same
          have hS7 := s7 _ _ hSm
          have ha7 := ha.same s7
          generalize upd H6 sh (.lst shTs) = H7 at *
          refine ⟨W, D, a, n, sh, x, r, ns, i, rfl, R7.well, R7.desk, ha7, R7.ok x List.mem_cons_self, by omega, R7.nms, hn4, hnm, hsh7, R7.tabs, fun H8 p a' x' kw8 w8 t8 d8 st8 ok8 hp8 => ?_, fun H8 p kw8 w8 t8 d8 hp8 => ?_⟩
          · obtain ⟨g1, ⟨as8, g2, g2p⟩, g3⟩ := R7.step (st' := x' :: x :: r) kw8 w8 t8
            have hS8 : H8 S = some (.lst (bs.map V.ref ++ [.ref a])) := kw8 _ _ hS7 (refs_ne (as := bs ++ [a]) R7.well (by rw [hS7, List.map_append]; rfl)) (lst_neD R7.desk hS7) (fun _ z => by cases z)
            have hb8 : Paired (StandAt H8) (bs ++ [a]) (x :: r).reverse := by
              have := g2p
              rw [hS8] at g2
              have e := HO.lst.inj (Option.some.inj g2)
              have e2 : as8 = bs ++ [a] := refs_inj (by rw [← e, List.map_append]; rfl)
              rw [← e2]
              exact g2p
            refine ⟨_, rfl, Nat.zero_le _, fun e he => ?_⟩
            have s9 := same_new (o := .lst []) he
            refine ⟨p, e, _, _, rfl, rfl, SqL.of (s9 _ _ hp8), SqL.of upd_same, (by show (2 : Nat) ≠ 0; decide), _, rfl, ifN rfl ?_⟩
            refine ⟨_, rfl, p, _, 1, _, rfl, rfl, SqL.of (s9 _ _ hp8), atI_of (by decide) rfl, true, rfl, ifY rfl ?_⟩
            refine ⟨_, rfl, _, rfl, p, _, 0, _, rfl, rfl, SqL.of (s9 _ _ hp8), atI_of (by decide) rfl, (by show 1 ≤ sizeLine; decide), fun l hl => ?_⟩
            have s10 := s9.new (o := .lst [.ref a']) hl
            refine ⟨S, l, _, _, rfl, rfl, s10 _ _ hS8, upd_same, ?_, fun S' hS' => ?_⟩
            · rw [hln]
              have := R7.len
              exact le_line (by show r.length + 1 + 1 ≤ 100000; rw [List.length_cons] at this; omega)
            have s11 := s10.new (o := .lst (bs.map V.ref ++ [.ref a] ++ [.ref a'])) hS'
            refine ⟨S', x' :: x :: r, _, _, _, rfl, ?_⟩
            refine ⟨well_same w8 s11, d8.same s11, tabs_same t8 s11, s11 _ _ g1, ⟨bs ++ [a] ++ [a'], by rw [upd_same, List.map_append, List.map_append]; rfl, ?_⟩, fun y hy => ?_, Nat.succ_le_succ R7.len, ?_, g3.trans (KW.of s11)⟩
            · rw [List.reverse_cons]
              exact paired_snoc (paired_mono hb8 fun _ _ _ h => h.same s11) (st8.same s11)
            · rcases List.mem_cons.mp hy with e | e
              · rw [e]; exact ok8
              · exact (R7.ok y e).mono (Nat.le_succ i)
            · exact ⟨x' :: st0, by rw [e0]; rfl⟩
          · obtain ⟨g1, g2, g3⟩ := R7.step (st' := x :: r) kw8 w8 t8
            refine ⟨_, rfl, Nat.zero_le _, fun e he => ?_⟩
            have s9 := same_new (o := .lst []) he
            refine ⟨p, e, _, _, rfl, rfl, SqL.of (s9 _ _ hp8), SqL.of upd_same, (by show (2 : Nat) ≠ 0; decide), _, rfl, ifN rfl ?_⟩
            refine ⟨_, rfl, p, _, 1, _, rfl, rfl, SqL.of (s9 _ _ hp8), atI_of (by decide) rfl, false, rfl, ifN rfl ?_⟩
            exact ⟨S, x :: r, _, _, _, rfl, ((⟨w8, d8, t8, g1, g2, R7.ok, R7.len, R7.bot, g3⟩ : RI TT CT CS CD H W D n ns i H8 S (x :: r)).same s9).mono (Nat.le_succ i)⟩
      · rintro σ' H' ⟨S', st', v3', v4', v5', rfl, R'⟩
        obtain ⟨st0, e0⟩ := R'.bot
        cases st' with
        | nil => cases st0 <;> cases e0
        | cons x r =>
          refine rd_check R' hn4 rfl rfl fun H7 s7 => ⟨_, rfl, ifN rfl ?_⟩
          exact ⟨S', _, v3', v4', v5', rfl, R'.same s7⟩
    · obtain ⟨S, st, v3, v4, v5, rfl, R⟩ := pv
      have hDn : H D = none := frz k1 hW w1 hD
      have hst16 : st.length ≤ 20 := by have := R.len; omega
      have hst0 : 0 < st.length := by
        obtain ⟨st0, e0⟩ := R.bot
        rw [e0]
        simp
      generalize hL : st.length = L at *
      obtain ⟨as, hS, hp⟩ := id R.stands
      have hal : (as.map V.ref).length = L := by rw [List.length_map, paired_len hp, List.length_reverse, hL]
      refine ⟨_, rfl, S, _, rfl, .inl (SqL.of hS), _, _, rfl, rfl, _, rfl, by omega, by omega, ?_⟩
      rw [hal]
      refine for_range (n := ((L : Int) - 1).toNat) (fun j σ H' => ∃ (S : Addr) (st : List Snap) (v3 v4 v5 : Option V), σ = [some (.ref W), some (.ref n), some (.ref S), v3, v4, v5, some (.ref D)] ∧ RI TT CT CS CD H W D n ns (1 + (m : Int)).toNat H' S st ∧ st.length = L - j) ⟨S, st, v3, v4, v5, rfl, R, hL⟩ (fun j σ H6 hj pv => ?_) (fun σ H6 pv => ?_)
      · clear hS hp hal R
        obtain ⟨S, st, v3, v4, v5, rfl, R, hl⟩ := pv
        match st, R, hl with
        | [], R, hl => exact absurd hl (by simp; omega)
        | [x], R, hl => exact absurd hl (by simp; omega)
        | x :: y :: r, R, hl =>
          obtain ⟨as, hS, hp⟩ := id R.stands
          rw [List.reverse_cons] at hp
          obtain ⟨bs, a, rfl, hb, ha⟩ := paired_snoc_inv hp
          have hSm : H6 S = some (.lst (bs.map V.ref ++ [.ref a])) := by rw [hS, List.map_append]; rfl
          refine ⟨_, rfl, 1, rfl, -1, rfl, S, _, rfl, SqL.of hSm, fun S9 hS9 => ?_⟩
          rw [cutV_init]
          have s9 := same_new (o := .lst (bs.map V.ref)) hS9
          have R9 := R.same s9
          have hb9 : Paired (StandAt (upd H6 S9 (.lst (bs.map V.ref)))) bs (y :: r).reverse := paired_mono hb fun _ _ _ h => h.same s9
          have hS99 : upd H6 S9 (.lst (bs.map V.ref)) S9 = some (.lst (bs.map V.ref)) := upd_same
          generalize upd H6 S9 (.lst (bs.map V.ref)) = H9 at *
          obtain ⟨dx9, sh9, hD9, _⟩ := id R9.desk
          have hne9 := desk_ne R9.desk R9.well
          refine ⟨_, rfl, D, dx9, _, rfl, hD9, df_no _ (by decide +kernel), D, x, y :: r, rfl, R9.desk, (fun h => by cases h), fun _ H10 k10 d10 => ⟨rfl, _, rfl, ifN (by decide) ?_⟩⟩
          have w10 := well_D R9.well hne9 k10
          have t10 := tabs_D R9.tabs hD9 k10
          obtain ⟨g1, g2, g3⟩ := R9.step (st' := y :: r) (KW.ofD k10) w10 t10
          obtain ⟨st0, e0⟩ := R9.bot
          have bt : ∃ st0, y :: r = st0 ++ [([], [])] := by
            cases st0 with
            | nil => cases e0
            | cons z st1 => exact ⟨st1, (List.cons.inj e0).2⟩
          have R10 : RI TT CT CS CD H W D n ns (1 + (m : Int)).toNat H10 S9 (y :: r) :=
            ⟨w10, d10, t10, g1, ⟨bs, k10 _ _ hS99 (lst_neD R9.desk hS99), paired_mono hb9 fun _ _ _ h => h.kw R9.desk R9.well (KW.ofD k10)⟩, fun z hz => R9.ok z (List.mem_cons_of_mem _ hz), Nat.le_trans (Nat.le_succ _) R9.len, bt, g3⟩
          refine rd_check R10 hn4 rfl rfl fun H11 s11 => ⟨_, rfl, ifN rfl ?_⟩
          exact ⟨S9, y :: r, _, _, _, rfl, R10.same s11, by rw [List.length_cons, List.length_cons] at hl; rw [List.length_cons]; omega⟩
      · clear hS hp hal R
        obtain ⟨S, st, v3, v4, v5, rfl, R, hl⟩ := pv
        obtain ⟨st0, e0⟩ := R.bot
        have e1 : st0 = [] := by
          cases st0 with
          | nil => rfl
          | cons z st1 =>
            have := congrArg List.length e0
            simp at this
            omega
        rw [e1, List.nil_append] at e0
        subst e0
        refine rd_undo T R.desk R.tabs rfl (fun _ H8 p eN t8 d8 hp8 => ?_) (fun hne => absurd rfl hne)
        refine ⟨(by show 1 ≤ sizeLine; decide), fun e he => ?_⟩
        have s9 := same_new (o := .lst [.str "nothing"]) he
        refine ⟨noD, noD, dp_no (s9 _ _ hp8), dp_no upd_same, no_shp.shaped (by decide), no_shp.shaped (by decide), _, rfl, ifY (by decide +kernel) ?_⟩
        have k9 : KW W D H (upd H8 e (.lst [.str "nothing"])) := R.kw.trans ((KW.ofN eN).trans (KW.of s9))
        have t9 := tabs_same t8 s9
        have d9 := d8.same s9
        generalize upd H8 e (.lst [.str "nothing"]) = H9 at *
        have wf0 : Wf (([], []) : Snap) := ⟨.nil, fun _ h => (by cases h), fun _ h => (by cases h), fun _ h => (by cases h)⟩
        refine ⟨_, rfl, D, ([], []), [], rfl, d9, wf0, Nat.zero_le _, fun H10 p1 ns1 s10 pm1 so1 d1 => ?_⟩
        have en : ns1 = [] := List.perm_nil.mp pm1
        subst en
        refine ⟨Nat.zero_le _, fun e1 he1 => ⟨Nat.zero_le _, fun e2 he2 => ⟨Nat.zero_le _, fun e3 he3 => ⟨(by show 4 ≤ sizeLine; decide), fun e4 he4 => ?_⟩⟩⟩⟩
        have u1 := same_new (o := .tup []) he1
        have u2 := same_new (o := .lst []) he2
        have u3 := same_new (o := .tup []) he3
        have u4 := same_new (o := .lst [.ref e1, .ref e2, .ref e3, .int 0]) he4
        have f1 := u4 _ _ (u3 _ _ (u2 _ _ (upd_same (H := H10) (a := e1))))
        have sh0 : Shp 3 (seenD ([], []) 0 []) := seen_shp wf0 fun _ h => by cases h
        refine ⟨seenD ([], []) 0 [], seenD ([], []) 0 [], Dp_same (((u1.trans u2).trans u3).trans u4) d1, .lst (SqL.of upd_same) (.cons (.tup (SqT.of f1) .nil) (.cons (.lst (SqL.of (u4 _ _ (u3 _ _ upd_same))) .nil) (.cons (.tup (SqT.of (u4 _ _ upd_same)) .nil) (.cons (.int 0) .nil)))), sh0.shaped (by decide), sh0.shaped (by decide), ?_⟩
        rw [SeqAt.eqv_refl _ sh0.1]
        have sF := s10.trans (((u1.trans u2).trans u3).trans u4)
        refine q _ (fun b o hb hbW hbt => (k9.trans (KW.of sF)) b o hb hbW (fun eb => by rw [eb, hDn] at hb; cases hb) hbt) (tabs_same t9 sF)
end
end Ky
end

section
set_option Elab.async false
set_option linter.all false
set_option maxRecDepth 100000
set_option maxHeartbeats 2000000
namespace Ky
open PySem PySem.Spec PyProof.Rows L2 LamX
section
variable {P : Program} {w : World} {K : PySem.W.Frag} {mg : Str → Option Value} {base : Heap} {f : Addr} {fd : FuncData}
theorem scLaw : FnScope ["_law_script", "_law_turn"] ["_law_script"] (defScope sLaw) := ⟨rfl, rfl, rfl, by decide +kernel, rfl, by decide +kernel, by decide +kernel⟩
def spLaw (K : PySem.W.Frag) (TT : List (Addr × Str)) : Sp := fun vs H Q _ => ∃ (a : Addr) (ns : List Int), vs = [.ref a] ∧ SqL K H a (ns.map V.int) ∧ ns.length ≤ 63 ∧ Tabs TT H ∧ ∀ H', Q (.bl true) H'
theorem sqL_by {H H' : Hp} {a : Addr} {xs : List V} (h : SqL K H a xs) (k : ∀ o, H a = some o → (∀ ps, o ≠ .tbl ps) → H' a = some o) : SqL K H' a xs := by
  rcases h with (h | ⟨o, h⟩) | h
  · exact .inl (.inl (k _ h fun _ z => by cases z))
  · exact .inl (.inr ⟨o, k _ h fun _ z => by cases z⟩)
  · exact .inr h
theorem ok_law {TT : List (Addr × Str)} (F : L2.Fun K "law" "law" sLaw f fd) (B : Bt mg)
    (CW : C8.Cal P w K mg base 1 "_law_well" (spWell K) []) (CR : C8.Cal P w K mg base 16 "_law_right" (spRight TT) []) : FnOk P w K mg base L2.CX0 17 f fd ["_law_script"] (spLaw K TT) := by
  refine F.ok scLaw (fun vs H Q E h => ?_) (fun cdv A outer s H vs Q E hr h => ?_)
  · obtain ⟨a, ns, rfl, _⟩ := h
    rfl
  · obtain ⟨a, ns, rfl, hS, hn, hT, q⟩ := h
    refine ⟨_, pss_one (ps_ret (pe_callB (cr_all rfl) (by rfl) B.all (by decide +kernel) (pa_cons
      (pe_lc (te := tCall (spRight TT) [] C8.E0 (tCons (tCall (spWell K) [] C8.E0 (tCons (tVar 0) (tCons (tVar 1) tNil))) tNil)) (own := [("_law_turn", 1)]) (g := gName 1) (tt := tYes) rfl scLaw.nd
        (pi_range1 (by rfl) B.range (pa_cons (pe_callB (call_max2 rfl) (by rfl) B.max (by decide +kernel) (pa_cons pe_int (pa_cons (pe_callB (call_min2 rfl) (by rfl) B.min (by decide +kernel) (pa_cons (pe_callB (r := Evl.rLenS K) call_len_seq (by rfl) B.len PySem.boot_len (pa_cons (pv 0) pa_nil)) (pa_cons pe_int pa_nil))) pa_nil))) pa_nil))
        (blkOk_by (N := ["_law_script", "_law_turn"]) (sc := defScope sLaw) (by decide +kernel)) (fun _ _ _ _ _ => pg_name (i := 1) scLaw.nd rfl (.inl rfl)) (fun _ _ _ _ _ => pts_nil)
        (fun _ _ _ _ _ => C8.pe_c CR hr (by decide) (by rfl) (pa_cons (C8.pe_c CW hr (by decide) (by rfl) (pa_cons (pv 0) (pa_cons (pv 1) pa_nil))) pa_nil))) pa_nil))), ?_⟩
    refine ⟨_, rfl, a, _, rfl, .inl hS, _, _, rfl, _, _, rfl, ?_⟩
    have hN : ∀ L : Int, 0 ≤ L → (if (if (5 : Int) < L then (5 : Int) else L) > 2 then (if (5 : Int) < L then (5 : Int) else L) else 2) ≤ 5 ∧ 2 ≤ (if (if (5 : Int) < L then (5 : Int) else L) > 2 then (if (5 : Int) < L then (5 : Int) else L) else 2) := fun L h => by
      split <;> split <;> omega
    obtain ⟨hN1, hN2⟩ := hN ((ns.map V.int).length : Int) (Int.natCast_nonneg _)
    generalize (if (if (5 : Int) < ((ns.map V.int).length : Int) then (5 : Int) else ((ns.map V.int).length : Int)) > 2 then (if (5 : Int) < ((ns.map V.int).length : Int) then (5 : Int) else ((ns.map V.int).length : Int)) else 2) = N at *
    refine ⟨N, rfl, by omega, by omega, fun D hD => ?_⟩
    refine lc_range (n := N.toNat) (fun i H' => SqL K H' a (ns.map V.int) ∧ Tabs TT H' ∧ ∃ bs : List Bool, H' D = some (.lst (bs.map V.bl)) ∧ bs.length = i ∧ ∀ b ∈ bs, b = true) ⟨sqL_same (same_new hD) hS, tabs_same hT (same_new hD), [], upd_same, rfl, fun _ h => by cases h⟩ (fun i H1 hi pv => ?_) (fun H1 pv => ?_)
    · obtain ⟨h1, h2, bs, h3, h4, h5⟩ := pv
      refine ⟨rfl, ?_⟩
      unfold tYes
      refine ifY rfl ?_
      refine ⟨_, rfl, _, rfl, a, ns, i, by rw [Int.zero_add]; rfl, h1, hn, by omega, fun H5 W s5 hWn w5 => ⟨W, rfl, w5, tabs_same h2 s5, fun H6 k6 t6 => ?_⟩⟩
      have hDW : D ≠ W := fun e => by rw [e, hWn] at h3; cases h3
      refine ⟨_, k6 _ _ (s5 _ _ h3) hDW (fun _ z => by cases z), by rw [List.length_map]; exact lt_line (by omega), ?_, ?_, bs ++ [true], ?_, by simp [h4], fun b hb => ?_⟩
      · have h5a := sqL_same s5 h1
        have h6a : SqL K H6 a (ns.map V.int) := by
          rcases h1 with (h | ⟨o, h⟩) | h
          · exact .inl (.inl (k6 _ _ (s5 _ _ h) (fun e => by rw [e, hWn] at h; cases h) fun _ z => by cases z))
          · exact .inl (.inr ⟨o, k6 _ _ (s5 _ _ h) (fun e => by rw [e, hWn] at h; cases h) fun _ z => by cases z⟩)
          · exact .inr h
        have haD : H a ≠ none → a ≠ D := fun h e => h (by rw [e]; exact hD)
        rcases hS with (h | ⟨o, h⟩) | h
        · exact sqL_by h6a fun o e _ => by rw [upd_ne (haD (by rw [h]; simp))]; exact e
        · exact sqL_by h6a fun o e _ => by rw [upd_ne (haD (by rw [h]; simp))]; exact e
        · exact .inr h
      · have h6 := k6 _ _ (s5 _ _ h3) hDW (fun _ z => by cases z)
        refine tabs_by t6 fun b o e h => ?_
        have hb : b ≠ D := fun z => by
          rw [z, h6] at e
          cases e
          rcases h with ⟨_, h⟩ | ⟨_, _, h⟩ <;> cases h
        rw [upd_ne hb]
        exact e
      · rw [upd_same, List.map_append]; rfl
      · rcases List.mem_append.mp hb with h | h
        · exact h5 b h
        · exact List.mem_singleton.mp h
    · obtain ⟨h1, h2, bs, h3, h4, h5⟩ := pv
      refine ⟨D, bs, rfl, SqL.of h3, ?_⟩
      have e : bs.all id = true := List.all_eq_true.mpr h5
      rw [e]
      exact q _
end
end Ky
end

section
set_option Elab.async false
set_option linter.all false
set_option maxRecDepth 100000
set_option maxHeartbeats 2000000
namespace Ky
open PySem PySem.Spec PyProof.Rows L2 LamX
theorem funC_of {K : PySem.W.Frag} {x q : Str} {st : Stmt} {f : Addr} {fd : FuncData} {p : He.Defn} (F : L2.Fun K x q st f fd) (e : He.fAd K p = f) : FunC K x q st f fd (He.codeOf K p) := by
  obtain ⟨⟨oc, od, kV, doc, pm, an, cdv, ct, osl, h1, h2, h3⟩, kp⟩ := F
  obtain ⟨c, rfl⟩ := He.codeIn_ref h3
  have e2 : He.codeOf K p = c := He.codeOf_eq (by rw [e]; exact h2) (by rw [h1])
  rw [e2]
  exact ⟨⟨oc, od, kV, doc, pm, an, ct, osl, h1, h2, h3⟩, kp⟩
def TTY (K : PySem.W.Frag) : List (Addr × Str) := [((He.cT K ("Desk", some "put")).2, lamQ "Desk.put"), ((He.cT K ("_law_done", none)).2, lamQ "_law_done"), ((He.cT K ("_law_right", none)).2, lamQ "_law_right")]
section
variable {P : Program} {w : World} {h base : Heap} {K : PySem.W.Frag} {mg : Str → Option Value}
theorem SaysY.fa (S : SaysY fysY tsY tfY exY w h K) (i : Nat) {f : He.Fa} (e : faY[i]? = some f := by rfl) : f.ok K = true := by
  have h1 := (He.ba (show ((faY.all fun f => f.ok K) && ((exYl K).all id && ((exYm K).all id && (exYn K).all id))) = true from S.more)).1
  exact List.all_eq_true.mp h1 f (List.mem_of_getElem? e)
theorem SaysY.exl (S : SaysY fysY tsY tfY exY w h K) (i : Nat) {b : Bool} (e : (exYl K)[i]? = some b := by rfl) : b = true := by
  have h1 := (He.ba (He.ba (show ((faY.all fun f => f.ok K) && ((exYl K).all id && ((exYm K).all id && (exYn K).all id))) = true from S.more)).2).1
  exact List.all_eq_true.mp h1 b (List.mem_of_getElem? e)
theorem SaysY.exm (S : SaysY fysY tsY tfY exY w h K) (i : Nat) {b : Bool} (e : (exYm K)[i]? = some b := by rfl) : b = true := by
  have h1 := (He.ba (He.ba (He.ba (show ((faY.all fun f => f.ok K) && ((exYl K).all id && ((exYm K).all id && (exYn K).all id))) = true from S.more)).2).2).1
  exact List.all_eq_true.mp h1 b (List.mem_of_getElem? e)
theorem SaysY.exn (S : SaysY fysY tsY tfY exY w h K) (i : Nat) {b : Bool} (e : (exYn K)[i]? = some b := by rfl) : b = true := by
  have h1 := (He.ba (He.ba (He.ba (show ((faY.all fun f => f.ok K) && ((exYl K).all id && ((exYm K).all id && (exYn K).all id))) = true from S.more)).2).2).2
  exact List.all_eq_true.mp h1 b (List.mem_of_getElem? e)
theorem SaysY.fy (S : SaysY fysY tsY tfY exY w h K) (i : Nat) (d : FY) (e : fysY[i]? = some d := by rfl) : ∃ fd, L2.Fun K d.name d.qual d.st (d.ad K) fd :=
  FY.fun_ (S.fn d (List.mem_of_getElem? e)).1 (S.fn d (List.mem_of_getElem? e)).2
theorem excB_ok {x : Str} {bm : List Value} {nw : String} (h : excB K x bm nw = true) (m : mg x = some (.ref (He.ga K x))) : ExI K mg x (He.ga K x) (He.ma K (He.ga K x) "__init__") bm nw ∧ L2.XfC K (He.ga K x) := by
  obtain ⟨h1, h⟩ := He.ba h
  obtain ⟨h2, h⟩ := He.ba h
  obtain ⟨h3, h4⟩ := He.ba h
  exact ⟨⟨oexB_ok h1, of_decide_eq_true h2, of_decide_eq_true h3, m⟩, L2.xfB_ok h4⟩
theorem insB_ok {C : Addr} (c : Cls K C) (h : insB K C = true) : C8.InsC K C := by
  obtain ⟨h1, h⟩ := He.ba h
  obtain ⟨h2, h⟩ := He.ba h
  obtain ⟨h3, h⟩ := He.ba h
  obtain ⟨h4, h5⟩ := He.ba h
  exact ⟨c, of_decide_eq_true h1, of_decide_eq_true h2, of_decide_eq_true h3, of_decide_eq_true h4, of_decide_eq_true h5⟩
theorem nsInt_ok {a : Addr} {x : Str} {z : Int} (h : (match PySem.W.nsIn K a x with | some (some (.int i _)) => decide (i = z) | _ => false) = true) : ∃ t, PySem.W.nsIn K a x = some (some (.int z t)) := by
  cases e : PySem.W.nsIn K a x with
  | none =>
    rw [e] at h
    cases h
  | some o =>
    rw [e] at h
    cases o with
    | none => cases h
    | some v =>
      cases v with
      | int j t =>
        have ej : j = z := of_decide_eq_true h
        rw [ej]
        exact ⟨t, rfl⟩
      | _ => cases h
theorem kdct_of {a : Addr} {x : Str} {z : Int} (d : ∃ es n, KDict K w a es n) (h : ∃ t, PySem.W.nsIn K a x = some (some (.int z t))) : KDct K w a x (.int z) := by
  obtain ⟨es, n, d⟩ := d
  obtain ⟨t, h⟩ := h
  exact ⟨es, n, _, d.at_, d.lit, h, ⟨t, rfl⟩⟩
theorem endY (S : SaysY fysY tsY tfY exY w h K) (KX : K.In h) (G : h.Ns mainGlobals mg) : ∃ fd, L2.Fun K "law" "law" sLaw (He.ga K "law") fd ∧ ∀ (base : Heap), (∀ p ∈ tfY, TabB base mg (He.cT K p).1 (He.cT K p).2) → FnOk P w K mg base L2.CX0 17 (He.ga K "law") fd ["_law_script"] (spLaw K (TTY K)) := by
  have g_is_integer := He.glo_ok (mg := mg) KX G (S.fa 0 (f := .glo "is_integer"))
  have g_is_between := He.glo_ok (mg := mg) KX G (S.fa 1 (f := .glo "is_between"))
  have g_is_name := He.glo_ok (mg := mg) KX G (S.fa 2 (f := .glo "is_name"))
  have g_number_in := He.glo_ok (mg := mg) KX G (S.fa 3 (f := .glo "number_in"))
  have g_signed_in := He.glo_ok (mg := mg) KX G (S.fa 4 (f := .glo "signed_in"))
  have g_rank_of := He.glo_ok (mg := mg) KX G (S.fa 5 (f := .glo "rank_of"))
  have g_sets_of := He.glo_ok (mg := mg) KX G (S.fa 6 (f := .glo "sets_of"))
  have g_determinant := He.glo_ok (mg := mg) KX G (S.fa 7 (f := .glo "determinant"))
  have g_cut := He.glo_ok (mg := mg) KX G (S.fa 8 (f := .glo "cut"))
  have g_rows_fault := He.glo_ok (mg := mg) KX G (S.fa 9 (f := .glo "rows_fault"))
  have g_rows_in := He.glo_ok (mg := mg) KX G (S.fa 10 (f := .glo "rows_in"))
  have g_check_table := He.glo_ok (mg := mg) KX G (S.fa 11 (f := .glo "check_table"))
  have g_first_bad := He.glo_ok (mg := mg) KX G (S.fa 12 (f := .glo "first_bad"))
  have g_bad_lot := He.glo_ok (mg := mg) KX G (S.fa 13 (f := .glo "bad_lot"))
  have g_is_claim := He.glo_ok (mg := mg) KX G (S.fa 14 (f := .glo "is_claim"))
  have g_names_in := He.glo_ok (mg := mg) KX G (S.fa 15 (f := .glo "names_in"))
  have g_single_fault := He.glo_ok (mg := mg) KX G (S.fa 16 (f := .glo "single_fault"))
  have g_fault_of := He.glo_ok (mg := mg) KX G (S.fa 17 (f := .glo "fault_of"))
  have g__law_well := He.glo_ok (mg := mg) KX G (S.fa 18 (f := .glo "_law_well"))
  have g__law_take := He.glo_ok (mg := mg) KX G (S.fa 19 (f := .glo "_law_take"))
  have g__law_one := He.glo_ok (mg := mg) KX G (S.fa 20 (f := .glo "_law_one"))
  have g__law_names := He.glo_ok (mg := mg) KX G (S.fa 21 (f := .glo "_law_names"))
  have g__law_ended := He.glo_ok (mg := mg) KX G (S.fa 22 (f := .glo "_law_ended"))
  have g__law_sheets := He.glo_ok (mg := mg) KX G (S.fa 23 (f := .glo "_law_sheets"))
  have g__law_seen := He.glo_ok (mg := mg) KX G (S.fa 24 (f := .glo "_law_seen"))
  have g__law_stand := He.glo_ok (mg := mg) KX G (S.fa 25 (f := .glo "_law_stand"))
  have g__law_done := He.glo_ok (mg := mg) KX G (S.fa 26 (f := .glo "_law_done"))
  have g__law_right := He.glo_ok (mg := mg) KX G (S.fa 27 (f := .glo "_law_right"))
  have g_law := He.glo_ok (mg := mg) KX G (S.fa 28 (f := .glo "law"))
  have g_Table := He.glo_ok (mg := mg) KX G (S.fa 29 (f := .glo "Table"))
  have g_Shelf := He.glo_ok (mg := mg) KX G (S.fa 30 (f := .glo "Shelf"))
  have g_Desk := He.glo_ok (mg := mg) KX G (S.fa 31 (f := .glo "Desk"))
  have g_Broken := He.glo_ok (mg := mg) KX G (S.fa 32 (f := .glo "Broken"))
  have g_UnknownName := He.glo_ok (mg := mg) KX G (S.fa 33 (f := .glo "UnknownName"))
  have g_InUse := He.glo_ok (mg := mg) KX G (S.fa 34 (f := .glo "InUse"))
  have g_NothingToUndo := He.glo_ok (mg := mg) KX G (S.fa 35 (f := .glo "NothingToUndo"))
  have g_SIZES := He.glo_ok (mg := mg) KX G (S.fa 36 (f := .glo "SIZES"))
  have g_NAMED := He.glo_ok (mg := mg) KX G (S.fa 37 (f := .glo "NAMED"))
  have bt : Bt mg := ⟨He.free_ok KX G (S.fa 38 (f := .free "isinstance")), He.free_ok KX G (S.fa 39 (f := .free "int")), He.free_ok KX G (S.fa 40 (f := .free "bool")), He.free_ok KX G (S.fa 41 (f := .free "str")), He.free_ok KX G (S.fa 42 (f := .free "len")), He.free_ok KX G (S.fa 43 (f := .free "all")), He.free_ok KX G (S.fa 44 (f := .free "tuple")), He.free_ok KX G (S.fa 45 (f := .free "list")), He.free_ok KX G (S.fa 46 (f := .free "dict")), He.free_ok KX G (S.fa 47 (f := .free "range")), He.free_ok KX G (S.fa 48 (f := .free "sorted")), He.free_ok KX G (S.fa 49 (f := .free "enumerate")), He.free_ok KX G (S.fa 50 (f := .free "divmod")), He.free_ok KX G (S.fa 51 (f := .free "abs")), He.free_ok KX G (S.fa 52 (f := .free "max")), He.free_ok KX G (S.fa 53 (f := .free "min"))⟩
  have cs : Cs mg := ⟨(He.str_ok KX G (S.fa 54 (f := .str "LETTERS" sLetters))).elim fun t e => ⟨_, e, t, rfl⟩, (He.str_ok KX G (S.fa 55 (f := .str "FIGURES" sFigures))).elim fun t e => ⟨_, e, t, rfl⟩, (He.int_ok KX G (S.fa 56 (f := .int "MOST_LETTERS" 8))).elim fun t e => ⟨_, e, t, rfl⟩, (He.int_ok KX G (S.fa 57 (f := .int "MOST_FIGURES" 60))).elim fun t e => ⟨_, e, t, rfl⟩, (He.int_ok KX G (S.fa 58 (f := .int "MOST_ROWS" 5))).elim fun t e => ⟨_, e, t, rfl⟩, (He.int_ok KX G (S.fa 59 (f := .int "MOST_NUMBER" (10 ^ 20)))).elim fun t e => ⟨_, e, t, rfl⟩, (He.str_ok KX G (S.fa 60 (f := .str "PARTED" sParted))).elim fun t e => ⟨_, e, t, rfl⟩⟩
  have c_Table := He.cls_ok (S.fa 61 (f := .cls "Table"))
  have c_Shelf := He.cls_ok (S.fa 62 (f := .cls "Shelf"))
  have c_Desk := He.cls_ok (S.fa 63 (f := .cls "Desk"))
  have tT : TbT K mg (He.ga K "Table") := ⟨c_Table, He.noat_ok (S.fa 64 (f := .noat "Table" "rows")), g_Table, insB_ok c_Table (S.exl 5)⟩
  have tS : ShT K mg (He.ga K "Shelf") := ⟨c_Shelf, He.noat_ok (S.fa 65 (f := .noat "Shelf" "pairs")), He.noat_ok (S.fa 66 (f := .noat "Shelf" "pledges")), He.noat_ok (S.fa 67 (f := .noat "Shelf" "before")), He.noat_ok (S.fa 68 (f := .noat "Shelf" "depth")), g_Shelf⟩
  have tD : DkT K mg (He.ga K "Table") (He.ga K "Shelf") (He.ga K "Desk") := ⟨c_Desk, He.noat_ok (S.fa 69 (f := .noat "Desk" "shelf")), of_decide_eq_true (S.exn 6), of_decide_eq_true (S.exn 7), g_Desk⟩
  obtain ⟨d_is_integer, F_is_integer⟩ := S.fy 0 ⟨fun K => He.ga K "is_integer", "is_integer", "is_integer", sIsInt⟩
  obtain ⟨d_is_between, F_is_between⟩ := S.fy 1 ⟨fun K => He.ga K "is_between", "is_between", "is_between", sBetween⟩
  obtain ⟨d_is_name, F_is_name⟩ := S.fy 2 ⟨fun K => He.ga K "is_name", "is_name", "is_name", sIsName⟩
  obtain ⟨d_number_in, F_number_in⟩ := S.fy 3 ⟨fun K => He.ga K "number_in", "number_in", "number_in", sNumIn⟩
  obtain ⟨d_signed_in, F_signed_in⟩ := S.fy 4 ⟨fun K => He.ga K "signed_in", "signed_in", "signed_in", sSigned⟩
  obtain ⟨d_rank_of, F_rank_of⟩ := S.fy 5 ⟨fun K => He.ga K "rank_of", "rank_of", "rank_of", sRank⟩
  obtain ⟨d_sets_of, F_sets_of⟩ := S.fy 6 ⟨fun K => He.ga K "sets_of", "sets_of", "sets_of", sSets⟩
  obtain ⟨d_determinant, F_determinant⟩ := S.fy 7 ⟨fun K => He.ga K "determinant", "determinant", "determinant", sDet⟩
  obtain ⟨d_cut, F_cut⟩ := S.fy 8 ⟨fun K => He.ga K "cut", "cut", "cut", sCut⟩
  obtain ⟨d_rows_fault, F_rows_fault⟩ := S.fy 9 ⟨fun K => He.ga K "rows_fault", "rows_fault", "rows_fault", sFault⟩
  obtain ⟨d_rows_in, F_rows_in⟩ := S.fy 10 ⟨fun K => He.ga K "rows_in", "rows_in", "rows_in", sRowsIn⟩
  obtain ⟨d_check_table, F_check_table⟩ := S.fy 11 ⟨fun K => He.ga K "check_table", "check_table", "check_table", sCheckT⟩
  obtain ⟨d_first_bad, F_first_bad⟩ := S.fy 12 ⟨fun K => He.ga K "first_bad", "first_bad", "first_bad", sFirst⟩
  obtain ⟨d_bad_lot, F_bad_lot⟩ := S.fy 13 ⟨fun K => He.ga K "bad_lot", "bad_lot", "bad_lot", sBadLot⟩
  obtain ⟨d_is_claim, F_is_claim⟩ := S.fy 14 ⟨fun K => He.ga K "is_claim", "is_claim", "is_claim", sIsClaim⟩
  obtain ⟨d_names_in, F_names_in⟩ := S.fy 15 ⟨fun K => He.ga K "names_in", "names_in", "names_in", sNamesIn⟩
  obtain ⟨d_single_fault, F_single_fault⟩ := S.fy 16 ⟨fun K => He.ga K "single_fault", "single_fault", "single_fault", sSingle⟩
  obtain ⟨d_fault_of, F_fault_of⟩ := S.fy 17 ⟨fun K => He.ga K "fault_of", "fault_of", "fault_of", sFaultOf⟩
  obtain ⟨d__law_well, F__law_well⟩ := S.fy 18 ⟨fun K => He.ga K "_law_well", "_law_well", "_law_well", sWell⟩
  obtain ⟨d__law_take, F__law_take⟩ := S.fy 19 ⟨fun K => He.ga K "_law_take", "_law_take", "_law_take", Ky.sTake⟩
  obtain ⟨d__law_one, F__law_one⟩ := S.fy 20 ⟨fun K => He.ga K "_law_one", "_law_one", "_law_one", sOne⟩
  obtain ⟨d__law_names, F__law_names⟩ := S.fy 21 ⟨fun K => He.ga K "_law_names", "_law_names", "_law_names", sNm⟩
  obtain ⟨d__law_ended, F__law_ended⟩ := S.fy 22 ⟨fun K => He.ga K "_law_ended", "_law_ended", "_law_ended", sEnded⟩
  obtain ⟨d__law_sheets, F__law_sheets⟩ := S.fy 23 ⟨fun K => He.ga K "_law_sheets", "_law_sheets", "_law_sheets", sSheets⟩
  obtain ⟨d__law_seen, F__law_seen⟩ := S.fy 24 ⟨fun K => He.ga K "_law_seen", "_law_seen", "_law_seen", sSeen⟩
  obtain ⟨d__law_stand, F__law_stand⟩ := S.fy 25 ⟨fun K => He.ga K "_law_stand", "_law_stand", "_law_stand", sStand⟩
  obtain ⟨d__law_done, F__law_done⟩ := S.fy 26 ⟨fun K => He.ga K "_law_done", "_law_done", "_law_done", sDone⟩
  obtain ⟨d__law_right, F__law_right⟩ := S.fy 27 ⟨fun K => He.ga K "_law_right", "_law_right", "_law_right", sRight⟩
  obtain ⟨d_law, F_law⟩ := S.fy 28 ⟨fun K => He.ga K "law", "law", "law", sLaw⟩
  obtain ⟨d_Table___init__, F_Table___init__⟩ := S.fy 29 ⟨fun K => He.ma K (He.ga K "Table") "__init__", "__init__", "Table.__init__", sTabInit⟩
  obtain ⟨d_Table_read, F_Table_read⟩ := S.fy 30 ⟨fun K => cmA K "Table" "read", "read", "Table.read", sRead⟩
  obtain ⟨d_Table_text, F_Table_text⟩ := S.fy 31 ⟨fun K => prA K "Table" "text", "text", "Table.text", sText⟩
  obtain ⟨d_Shelf___init__, F_Shelf___init__⟩ := S.fy 32 ⟨fun K => He.ma K (He.ga K "Shelf") "__init__", "__init__", "Shelf.__init__", sShInit⟩
  obtain ⟨d_Broken___init__, F_Broken___init__⟩ := S.fy 33 ⟨fun K => He.ma K (He.ga K "Broken") "__init__", "__init__", "Broken.__init__", sBkInit⟩
  obtain ⟨d_UnknownName___init__, F_UnknownName___init__⟩ := S.fy 34 ⟨fun K => He.ma K (He.ga K "UnknownName") "__init__", "__init__", "UnknownName.__init__", sUnInit⟩
  obtain ⟨d_InUse___init__, F_InUse___init__⟩ := S.fy 35 ⟨fun K => He.ma K (He.ga K "InUse") "__init__", "__init__", "InUse.__init__", sIuInit⟩
  obtain ⟨d_Desk___init__, F_Desk___init__⟩ := S.fy 36 ⟨fun K => He.ma K (He.ga K "Desk") "__init__", "__init__", "Desk.__init__", sDkInit⟩
  obtain ⟨d_Desk_check_claims, F_Desk_check_claims⟩ := S.fy 37 ⟨fun K => He.ma K (He.ga K "Desk") "check_claims", "check_claims", "Desk.check_claims", sChk⟩
  obtain ⟨d_Desk_names, F_Desk_names⟩ := S.fy 38 ⟨fun K => prA K "Desk" "names", "names", "Desk.names", sNames⟩
  obtain ⟨d_Desk_claims, F_Desk_claims⟩ := S.fy 39 ⟨fun K => prA K "Desk" "claims", "claims", "Desk.claims", sClaims⟩
  obtain ⟨d_Desk_changes, F_Desk_changes⟩ := S.fy 40 ⟨fun K => prA K "Desk" "changes", "changes", "Desk.changes", sChanges⟩
  obtain ⟨d_Desk___contains__, F_Desk___contains__⟩ := S.fy 41 ⟨fun K => He.ma K (He.ga K "Desk") "__contains__", "__contains__", "Desk.__contains__", sCont⟩
  obtain ⟨d_Desk_check_known, F_Desk_check_known⟩ := S.fy 42 ⟨fun K => He.ma K (He.ga K "Desk") "check_known", "check_known", "Desk.check_known", sKnown⟩
  obtain ⟨d_Desk_thing, F_Desk_thing⟩ := S.fy 43 ⟨fun K => He.ma K (He.ga K "Desk") "thing", "thing", "Desk.thing", sThing⟩
  obtain ⟨d_Desk_put, F_Desk_put⟩ := S.fy 44 ⟨fun K => He.ma K (He.ga K "Desk") "put", "put", "Desk.put", sPut⟩
  obtain ⟨d_Desk_drop, F_Desk_drop⟩ := S.fy 45 ⟨fun K => He.ma K (He.ga K "Desk") "drop", "drop", "Desk.drop", sDrop⟩
  obtain ⟨d_Desk_claim, F_Desk_claim⟩ := S.fy 46 ⟨fun K => He.ma K (He.ga K "Desk") "claim", "claim", "Desk.claim", sClaim⟩
  obtain ⟨d_Desk_lift, F_Desk_lift⟩ := S.fy 47 ⟨fun K => He.ma K (He.ga K "Desk") "lift", "lift", "Desk.lift", sLift⟩
  obtain ⟨d_Desk_undo, F_Desk_undo⟩ := S.fy 48 ⟨fun K => He.ma K (He.ga K "Desk") "undo", "undo", "Desk.undo", sUndo⟩
  have b_Table___init__ : L2.Binds K d_Table___init__ ["self", "rows"] [] := F_Table___init__.binds (fun _ _ _ _ _ _ us hl => match us, hl with | [_, _], _ => rfl)
  have b_Table_read : L2.Binds K d_Table_read ["cls", "text"] [] := F_Table_read.binds (fun _ _ _ _ _ _ us hl => match us, hl with | [_, _], _ => rfl)
  have b_Table_text : L2.Binds K d_Table_text ["self"] [] := F_Table_text.binds (fun _ _ _ _ _ _ us hl => match us, hl with | [_], _ => rfl)
  have b_Shelf___init__ : L2.Binds K d_Shelf___init__ ["self", "pairs", "pledges", "before"] [] := F_Shelf___init__.binds (fun _ _ _ _ _ _ us hl => match us, hl with | [_, _, _, _], _ => rfl)
  have b_Desk___init__ : L2.Binds K d_Desk___init__ ["self"] [] := F_Desk___init__.binds (fun _ _ _ _ _ _ us hl => match us, hl with | [_], _ => rfl)
  have b_Desk_names : L2.Binds K d_Desk_names ["self"] [] := F_Desk_names.binds (fun _ _ _ _ _ _ us hl => match us, hl with | [_], _ => rfl)
  have b_Desk_claims : L2.Binds K d_Desk_claims ["self"] [] := F_Desk_claims.binds (fun _ _ _ _ _ _ us hl => match us, hl with | [_], _ => rfl)
  have b_Desk_changes : L2.Binds K d_Desk_changes ["self"] [] := F_Desk_changes.binds (fun _ _ _ _ _ _ us hl => match us, hl with | [_], _ => rfl)
  have b_Desk___contains__ : L2.Binds K d_Desk___contains__ ["self", "name"] [] := F_Desk___contains__.binds (fun _ _ _ _ _ _ us hl => match us, hl with | [_, _], _ => rfl)
  have k_Table := He.mkr_ok (S.fa 79 (f := .mkr "Table"))
  have k_Shelf := He.mkr_ok (S.fa 80 (f := .mkr "Shelf"))
  have k_Desk := He.mkr_ok (S.fa 81 (f := .mkr "Desk"))
  have m_check_claims := He.meth_ok (S.fa 70 (f := .meth "Desk" "check_claims"))
  have m___contains__ := He.meth_ok (S.fa 71 (f := .meth "Desk" "__contains__"))
  have m_check_known := He.meth_ok (S.fa 72 (f := .meth "Desk" "check_known"))
  have m_thing := He.meth_ok (S.fa 73 (f := .meth "Desk" "thing"))
  have m_put := He.meth_ok (S.fa 74 (f := .meth "Desk" "put"))
  have m_drop := He.meth_ok (S.fa 75 (f := .meth "Desk" "drop"))
  have m_claim := He.meth_ok (S.fa 76 (f := .meth "Desk" "claim"))
  have m_lift := He.meth_ok (S.fa 77 (f := .meth "Desk" "lift"))
  have m_undo := He.meth_ok (S.fa 78 (f := .meth "Desk" "undo"))
  have p_text := propB_ok (S.exl 0)
  have p_names := propB_ok (S.exl 1)
  have p_claims := propB_ok (S.exl 2)
  have p_changes := propB_ok (S.exl 3)
  obtain ⟨r_T, r_M⟩ := cmetB_ok (S.exl 4)
  obtain ⟨xB, fB⟩ := excB_ok (S.exl 6) g_Broken
  obtain ⟨xU, fU⟩ := excB_ok (S.exl 7) g_UnknownName
  obtain ⟨xI, fI⟩ := excB_ok (S.exl 8) g_InUse
  have nBi := of_decide_eq_true (S.exl 9)
  have nBs := of_decide_eq_true (S.exl 10)
  have nUg := of_decide_eq_true (S.exl 11)
  have nIi := of_decide_eq_true (S.exl 12)
  have xT : ExT K mg (He.ga K "Broken") (He.ga K "UnknownName") (He.ga K "InUse") (He.ga K "NothingToUndo") := ⟨g_Broken, g_UnknownName, g_InUse, g_NothingToUndo, fB, fU, fI, nBi, nBs, nUg, nIi, of_decide_eq_true (S.exm 0), of_decide_eq_true (S.exm 1), of_decide_eq_true (S.exm 2), of_decide_eq_true (S.exm 3), of_decide_eq_true (S.exm 4), of_decide_eq_true (S.exm 5), of_decide_eq_true (S.exm 6), of_decide_eq_true (S.exm 7), of_decide_eq_true (S.exm 8), of_decide_eq_true (S.exm 9)⟩
  have dN := S.tab (fun K => He.ga K "NAMED", ["single", "between", "nought"]) (by exact List.mem_cons_of_mem _ List.mem_cons_self)
  have dS := S.tab (fun K => He.ga K "SIZES", ["single", "between", "nought"]) List.mem_cons_self
  have kN := kdct_of dN (nsInt_ok (S.exn 4))
  obtain ⟨esS, nS, dS⟩ := dS
  have kS := nsInt_ok (S.exn 5)
  refine ⟨d_law, F_law, fun base TB => ?_⟩
  have C_is_integer := ok_isInt (P := P) (w := w) (base := base) F_is_integer g_is_integer bt
  have C_is_between := ok_between (P := P) (w := w) (base := base) F_is_between g_is_between C_is_integer
  have C_is_name := ok_isName (P := P) (w := w) (base := base) F_is_name g_is_name bt cs
  have C_number_in := ok_numIn (P := P) (w := w) (base := base) F_number_in g_number_in bt cs
  have C_signed_in := ok_signed (P := P) (w := w) (base := base) F_signed_in g_signed_in C_number_in
  have C_rows_fault := ok_fault (P := P) (w := w) (base := base) F_rows_fault g_rows_fault bt cs C_is_between
  have C_rows_in := ok_rowsIn (P := P) (w := w) (base := base) F_rows_in g_rows_in bt cs C_signed_in C_rows_fault
  have C_TI := ok_tabInit (P := P) (w := w) (base := base) F_Table___init__ tT cs C_rows_fault
  have C_read := ok_read (P := P) (w := w) (base := base) F_Table_read bt k_Table b_Table___init__ C_TI C_rows_in
  have C_text := ok_text (P := P) (w := w) (base := base) F_Table_text tT bt cs
  have C_check_table := ok_checkT (P := P) (w := w) (base := base) F_check_table g_check_table tT bt
  have C_sets_of := ok_sets (P := P) (w := w) (base := base) F_sets_of g_sets_of bt F_rank_of g_rank_of
  have C_cut := ok_cut (P := P) (w := w) (base := base) F_cut g_cut
  have C_determinant := ok_det (P := P) (w := w) (base := base) F_determinant g_determinant bt
  have C_first_bad := ok_first (P := P) (w := w) (base := base) F_first_bad g_first_bad bt C_sets_of C_determinant C_cut
  have C_bad_lot := ok_badLot (P := P) (w := w) (base := base) F_bad_lot g_bad_lot tT C_check_table C_first_bad
  have C_single_fault := ok_single (P := P) (w := w) (base := base) F_single_fault g_single_fault C_bad_lot
  have C_fault_of := ok_faultOf (P := P) (w := w) (base := base) F_fault_of g_fault_of C_single_fault
  have C_names_in := ok_namesIn (P := P) (w := w) (base := base) F_names_in g_names_in g_NAMED kN
  have C_is_claim := ok_isClaim (P := P) (w := w) (base := base) F_is_claim g_is_claim bt g_SIZES dS kS
  have C_SI := ok_shInit (P := P) (w := w) (base := base) F_Shelf___init__ tS
  have C_chk := ok_chk (P := P) (w := w) (base := base) c_Desk m_check_claims F_Desk_check_claims bt xB F_Broken___init__ nBi nBs C_fault_of
  have C_names := ok_names (P := P) (w := w) (base := base) F_Desk_names tD tS bt
  have C_claims := ok_claims (P := P) (w := w) (base := base) F_Desk_claims tD tS
  have C_changes := ok_changes (P := P) (w := w) (base := base) F_Desk_changes tD tS
  have C_cont := ok_cont (P := P) (w := w) (base := base) F_Desk___contains__ tD C_is_name p_names b_Desk_names C_names
  have C_known := ok_known (P := P) (w := w) (base := base) m_check_known F_Desk_check_known tD m___contains__ b_Desk___contains__ C_cont xU F_UnknownName___init__ nUg
  have C_thing := ok_thing (P := P) (w := w) (base := base) m_thing F_Desk_thing tD tS bt C_known
  have C_undo := ok_undo (P := P) (w := w) (base := base) m_undo F_Desk_undo tD tS (S.exn 0) g_NothingToUndo (S.exn 1) (of_decide_eq_true (S.exn 2)) (of_decide_eq_true (S.exn 3))
  have C_DI := ok_dkInit (P := P) (w := w) (base := base) F_Desk___init__ tD tS k_Shelf b_Shelf___init__ C_SI
  have C_lift := ok_lift (P := P) (w := w) (base := base) m_lift F_Desk_lift tD tS bt k_Shelf b_Shelf___init__ C_SI C_is_between
  have C_drop := ok_drop (P := P) (w := w) (base := base) m_drop F_Desk_drop tD tS bt k_Shelf b_Shelf___init__ C_SI C_known C_names_in xI F_InUse___init__ nIi
  have C_claim := ok_claim (P := P) (w := w) (base := base) m_claim F_Desk_claim tD tS k_Shelf b_Shelf___init__ C_SI C_known C_chk C_names_in C_is_claim
  have n12 : (He.cT K ("Desk", some "put")).2 ≠ (He.cT K ("_law_done", none)).2 := of_decide_eq_true (S.exn 8)
  have n13 : (He.cT K ("Desk", some "put")).2 ≠ (He.cT K ("_law_right", none)).2 := of_decide_eq_true (S.exn 9)
  have n23 : (He.cT K ("_law_done", none)).2 ≠ (He.cT K ("_law_right", none)).2 := of_decide_eq_true (S.exn 10)
  have u1 : ∀ p ∈ TTY K, p.1 = (He.cT K ("Desk", some "put")).2 → p.2 = lamQ "Desk.put" := fun p hp e => by
    rcases List.mem_cons.mp hp with z | hp
    · rw [z] at e ⊢
    rcases List.mem_cons.mp hp with z | hp
    · rw [z] at e ⊢
      exact absurd e n12.symm
    · rw [List.mem_singleton.mp hp] at e ⊢
      exact absurd e n13.symm
  have u2 : ∀ p ∈ TTY K, p.1 = (He.cT K ("_law_done", none)).2 → p.2 = lamQ "_law_done" := fun p hp e => by
    rcases List.mem_cons.mp hp with z | hp
    · rw [z] at e ⊢
      exact absurd e n12
    rcases List.mem_cons.mp hp with z | hp
    · rw [z] at e ⊢
    · rw [List.mem_singleton.mp hp] at e ⊢
      exact absurd e n23.symm
  have u3 : ∀ p ∈ TTY K, p.1 = (He.cT K ("_law_right", none)).2 → p.2 = lamQ "_law_right" := fun p hp e => by
    rcases List.mem_cons.mp hp with z | hp
    · rw [z] at e ⊢
      exact absurd e n13
    rcases List.mem_cons.mp hp with z | hp
    · rw [z] at e ⊢
      exact absurd e n23
    · rw [List.mem_singleton.mp hp] at e ⊢
  have TB1 : TabB base mg (He.codeOf K ("Desk", some "put")) (He.cT K ("Desk", some "put")).2 := TB ("Desk", some "put") List.mem_cons_self
  have TB2 : TabB base mg (He.codeOf K ("_law_done", none)) (He.cT K ("_law_done", none)).2 := TB ("_law_done", none) (List.mem_cons_of_mem _ List.mem_cons_self)
  have TB3 : TabB base mg (He.codeOf K ("_law_right", none)) (He.cT K ("_law_right", none)).2 := TB ("_law_right", none) (List.mem_cons_of_mem _ (List.mem_cons_of_mem _ List.mem_cons_self))
  have C_put := ok_put (P := P) (w := w) (base := base) (TT := TTY K) m_put (funC_of (p := ("Desk", some "put")) F_Desk_put rfl) tD tS bt k_Shelf b_Shelf___init__ C_SI C_chk C_is_name C_check_table TB1 List.mem_cons_self u1
  have C_take := ok_take (P := P) (w := w) (base := base) F__law_take g__law_take bt
  have C_one := ok_one (P := P) (w := w) (base := base) F__law_one g__law_one bt C_take
  have C_sheets := ok_sheets (P := P) (w := w) (base := base) F__law_sheets g__law_sheets
  have C_well := ok_well (P := P) (w := w) (base := base) F__law_well g__law_well bt
  have C_nm := ok_nm (P := P) (w := w) (base := base) F__law_names g__law_names bt C_take C_one
  have C_seen := ok_seen (P := P) (w := w) (base := base) F__law_seen g__law_seen tD tT p_names b_Desk_names C_names p_claims b_Desk_claims C_claims p_changes b_Desk_changes C_changes p_text b_Table_text C_text C_thing
  have C_stand := ok_stand (P := P) (w := w) (base := base) F__law_stand g__law_stand bt
  have C_done := ok_done (P := P) (w := w) (base := base) (TT := TTY K) (funC_of (p := ("_law_done", none)) F__law_done rfl) g__law_done bt C_take C_one F__law_ended g__law_ended xT TB2 (List.mem_cons_of_mem _ List.mem_cons_self) u2 tT r_T r_M C_read b_Table_read C_put C_drop C_claim C_lift
  have C_right := ok_right (P := P) (w := w) (base := base) (TT := TTY K) (funC_of (p := ("_law_right", none)) F__law_right rfl) g__law_right bt C_take C_nm C_sheets C_seen C_stand C_done F__law_ended g__law_ended xT TB3 (List.mem_cons_of_mem _ (List.mem_cons_of_mem _ List.mem_cons_self)) u3 tD k_Desk b_Desk___init__ C_DI C_undo
  exact ok_law F_law bt C_well C_right
end
end Ky
end

section
set_option Elab.async false
set_option linter.all false
set_option maxRecDepth 100000
set_option maxHeartbeats 0
namespace Ky
open PySem PySem.Spec PyProof.Rows L2 LamX
theorem tabs_nilY {K : PySem.W.Frag} {H : Hp} (h : ∀ p ∈ tfY.map (He.cT K), H p.2 = some (.tbl #[])) : Tabs (TTY K) H := fun p hp => by
  rcases List.mem_cons.mp hp with z | hp
  · rw [z]
    exact TabS.nil (h (He.cT K ("Desk", some "put")) (List.mem_map.mpr ⟨_, List.mem_cons_self, rfl⟩))
  rcases List.mem_cons.mp hp with z | hp
  · rw [z]
    exact TabS.nil (h (He.cT K ("_law_done", none)) (List.mem_map.mpr ⟨_, List.mem_cons_of_mem _ List.mem_cons_self, rfl⟩))
  · rw [List.mem_singleton.mp hp]
    exact TabS.nil (h (He.cT K ("_law_right", none)) (List.mem_map.mpr ⟨_, List.mem_cons_of_mem _ (List.mem_cons_of_mem _ List.mem_cons_self), rfl⟩))
theorem bindsY {K : PySem.W.Frag} {f : Addr} {fd : FuncData} (F : L2.Fun K "law" "law" sLaw f fd) (s : Shared) (u : Value) : BindsTo s fd ⟨[u], []⟩ [("_law_script", u)] := by
  obtain ⟨⟨oc, od, kV, doc, pm, an, cdv, ct, osl, rfl, lk, hcd⟩, kp⟩ := F
  exact BindsTo.of_eq rfl
theorem lawY (w : World) (mg : Str → Option Value) (fa : Addr) (h : Heap) (Y : hkY.says w h) (G : h.Ns mainGlobals mg) (hm : mg "law" = some (.ref fa)) :
    ∃ K : PySem.W.Frag, K.In h ∧ LawAtS PySem.Challenge.rw_onlyanswer_k58_whole_desks_led_back w K L2.CX0 17 63 "_law_script" mg fa h := by
  obtain ⟨K, KX, S⟩ := (show ∃ K : PySem.W.Frag, K.In h ∧ SaysY fysY tsY tfY exY w h K from Y)
  obtain ⟨fd, FL, FO⟩ := endY (P := PySem.Challenge.rw_onlyanswer_k58_whole_desks_led_back.prog) S KX G
  have e := hm.symm.trans (He.glo_ok (mg := mg) KX G (S.fa 28 (f := .glo "law")))
  cases e
  have mp : ∀ {Z : Addr × Addr → Prop}, (∀ p ∈ tfY, Z (He.cT K p)) → ∀ p ∈ tfY.map (He.cT K), Z p := fun hz p hp => by
    obtain ⟨q, hq, rfl⟩ := List.mem_map.mp hp
    exact hz q hq
  refine ⟨K, KX, fd, tfY.map (He.cT K), spLaw K (TTY K), mp S.empty, mp S.out, mp fun p hp => PySem.W.codeHd_of_K KX (S.hd p hp), bindsY FL, fun H a ns hl _ hH hS => ⟨a, ns, rfl, hS, hl, tabs_nilY hH, fun _ => rfl⟩, fun base _ _ hT => FO base fun p hp => hT _ (List.mem_map.mpr ⟨p, hp, rfl⟩)⟩
theorem roomY : Room 17 callerA := ⟨rfl, by decide +kernel, by decide +kernel⟩
theorem callY : PySem.W.WalkO (PySem.W.view RY.prog [112]) loose (PySem.W.XL (PySem.W.view RY.prog [112]) []) hkY.says RY.toRowW (HandSHeadRun.topDef RY.prog 112) [] (fun f vs => PySem.call f vs) := by
  refine walk_ofTsE (l := PySem.Challenge.rw_onlyanswer_k58_whole_desks_led_back) (n := 63) (k := 17) (x := "_law_script") (CX := fun _ => L2.CX0) rfl (by decide) (by kernel_rfl) roomY (fun w mg fa h Y G hm => ?_) (fun _ _ _ _ _ z => z)
  have e : (HandSHeadRun.topDef RY.prog 112).name = ("law" : Str) := by kernel_rfl
  rw [e] at hm
  exact lawY w mg fa h Y G hm
end Ky
end

section
set_option Elab.async false
set_option linter.all false
set_option maxRecDepth 100000
set_option maxHeartbeats 0
open PySem PySem.W PySem.Calls PyProof.Rows
theorem PySem.Challenge.cw_onlyanswer_k58_whole_desks_led_back_holds : PySem.Challenge.rw_onlyanswer_k58_whole_desks_led_back.Holds := by
  w_on; o_law
  refine HandSHeadRun.head_any (r := Ky.RY) (q := view Ky.RY.prog [112]) (H := Ky.hkY) (ob := Ky.obY) (M := 10000) (loose := Ky.loose) (d := HandSHeadRun.topDef Ky.RY.prog 112) (kwd := []) Ky.obY_eq
    (by kernel_rfl) (fun s => by kernel_rfl) Ky.runY (by kernel_rfl) (by kernel_rfl) (by kernel_rfl) (by rfl) (by first | assumption | decide +kernel) (by decide +kernel) ⟨rfl, rfl, rfl, rfl, rfl, by decide +kernel⟩ ?hw ?hc
  case hw => w_witness2
  case hc => exact Ky.callY
end
