import PyProof.Rows.All
import Wide.All
import OpenK.AllK
import Wide.FinOn
import KE.KExcInit
import KE.KExcIs
import HandS.Base
import HandS.Call
import HandS.List
import HandS.Exc
import HandS.ExcOwn
import HandS.ExcInit
import HandS.IsInst
import HandS.ExcValue
import HandS.Ends
import HandS.Words
import HandS.ForMost
import HandS.Defaults
import HandS.HeadHook1
import HandS.HeadHook2
import HandS.HeadHook3
import HandS.HeadHook4
import HandS.HeadEnd
import HandS.Head0
import HandS.Head1
import HandS.Head2
import HandS.DeepEq
import KE.KStateDown
import Lean
import PySem.Challenge.RW_warnfilters_k76_exceptions_and_their_bas
set_option Elab.async false
set_option linter.all false
set_option maxRecDepth 100000
set_option maxHeartbeats 4000000
/-! Own exception classes right below a built-in one: made with their own __init__, read, asked by isinstance. -/
namespace WE
open PySem PySem.W PySem.Calls PyProof.Rows PySem.HandSPX
open Builtin Builtin.ObjectAttr
section
variable {prog : Program} {w : World} {A : Around} {E : Value → Shared → Prop} {R : Result → Shared → Prop} {hp : Heap} {g : Array GenState} {d : Drawn} {t : Nat} {os : OsState}
/-- what a class's mro must say so that a plain store passes -/
structure MroOk (x : Addr) (mro : List Value) : Prop where
  pass : refuseLoop (.ref x) "__setattr__" mro = pure ()
  ne : mro.isEmpty = false
  ob : mro.contains (.type "object") = true
theorem MroOk.of {x C : Addr} {B : String} {bm : List Value} (S : StoreFacts B bm "object.__setattr__" "object") : MroOk x (.ref C :: bm) where
  pass := by rw [refuseLoop_ref]; exact S.passes (.ref x)
  ne := rfl
  ob := by rw [List.contains_cons, S.hasOwner, Bool.or_true]
/-- the way to the store itself -/
theorem sa_head {K : W.Frag} {f : Str} {tk : Tok} {v : Value} {x C : Addr} {ox : Obj} {cd : ClassData} {oD : Option Obj}
    (X : K.In hp) (I : W.InstAt hp x ox C oD) (hcd : W.clsIn K C = some cd) (hm : MroOk x cd.mro) (ha : W.findIn K (.ref C) f = some none)
    (hq : ∀ A', wpAny (model prog w) A' (storeInOwnDict (.ref x) (.ref C) (.str f tk) f v false)
      (fun fin s' => match fin with | .done q => R (.ok q) s' | .again c' => c'.quiet = true ∧ codeAny (model prog w) A c' R s') (fun e s' => R (.error e) s') ⟨hp, g, d, t, os⟩) :
    codeAny (model prog w) A (.call (.builtin "object.__setattr__") ⟨[.ref x, .str f tk, v], []⟩) R ⟨hp, g, d, t, os⟩ := by
  have SF := PySem.F.store_object
  have L0 := I.type (M := model prog w)
  have isob : W.Looks (model prog w) hp (isInstance (.ref x) (.type "object")) true :=
    L0.andThen (W.looks_mroIn X (by unfold W.mroIn; rw [hcd, Option.bind_some, if_neg (by rw [hm.ne]; decide), hm.ob]))
  have Lm : W.Looks (model prog w) hp (mroOf (.ref C)) cd.mro := (W.looks_clsIn X hcd).andThen .now
  have La := W.looks_findIn (M := model prog w) X ha
  have Lt : W.Looks (model prog w) hp (storeTaker? none) none := .now
  refine codeAny_call_builtin SF.slot.plain SF.entry ?_
  refine @W.check_slot (model prog w) _ _ ⟨hp, g, d, t, os⟩ "object.__setattr__" "object" "__setattr__" (.ref x) [.str f tk, v] [] _ SF.kind SF.split isob (SF.args (.ref x) (.str f tk) v) ?_
  rw [W.osa_eq, refuse_eq]
  refine wpAny_bind (wpAny_bind (L0.at (wpAny_bind (Lm.at ?_))))
  rw [hm.pass]
  refine wpAny_pure (wpAny_bind (L0.at (wpAny_bind (La.at (wpAny_bind (Lt.at ?_))))))
  exact hq _
/-- the first field: the dict is laid -/
theorem put_first {K : W.Frag} {f : Str} {tk : Tok} {v : Value} {x C : Addr} {fv : Array Value} {cd : ClassData}
    (X : K.In hp) (hx : hp.get? x = some { cls := .ref C, data := .fields fv }) (hcd : W.clsIn K C = some cd) (hm : MroOk x cd.mro) (hh : cd.hasDict = true) (ha : W.findIn K (.ref C) f = some none)
    (hq : ∀ h' tk' dx, (∀ b o, b ≠ x → hp.get? b = some o → h'.get? b = some o) → hp.objs.size ≤ dx → dx ≠ x → h'.get? x = some { cls := .ref C, dict := some dx, data := .fields fv } →
      h'.Ns1 dx (fun y => if y = f then some v else none) → R (.ok (.ret .none)) ⟨h', g, d, tk', os⟩) :
    codeAny (model prog w) A (.call (.builtin "object.__setattr__") ⟨[.ref x, .str f tk, v], []⟩) R ⟨hp, g, d, t, os⟩ := by
  have I : W.InstAt hp x { cls := .ref C, data := .fields fv } C none := ⟨hx, rfl, rfl, trivial⟩
  have hxs : x ≠ hp.objs.size := Nat.ne_of_lt (Heap.lt_size hx)
  have Lc : W.Looks (model prog w) hp (classData C) cd := W.looks_clsIn X hcd
  refine sa_head X I hcd hm ha fun A' => ?_
  obtain ⟨nm, bs, mro, ns, qn, hd, sn, sb, ab, col, del⟩ := cd
  dsimp only at hh
  subst hh
  unfold storeInOwnDict ownDictForStores
  repeat (first | with_reducible refine store_in_new ?_ ?_ | with_reducible refine wpAny_loadPart_at hx ?_ | with_reducible refine Lc.at ?_ | wp_step)
  · exact ⟨_, #[], _, (Heap.get?_update_ne _ _ _ _ hxs.symm).trans (Heap.get?_push_at rfl rfl), rfl, fun e he => absurd he (by simp), fun _ => rfl⟩
  · intro h' tk' hn' hs
    have hx₁ : (hp.push { cls := .type "dict", data := .dict #[] }).get? x = some { cls := .ref C, data := .fields fv } := Heap.get?_push_of_some _ hx
    exact hq h' tk' hp.objs.size (fun b o hb ho => (hs.2 b (Nat.ne_of_lt (Heap.lt_size ho))).trans ((Heap.get?_update_ne _ _ _ _ hb).trans (Heap.get?_push_of_some _ ho)))
      (Nat.le_refl _) hxs.symm ((hs.2 x hxs).trans (Heap.get?_update_self _ hx₁ rfl)) hn'
/-- a further field -/
theorem put_more {K : W.Frag} {f : Str} {tk : Tok} {v : Value} {x C dx : Addr} {fv : Array Value} {cd : ClassData} {m0 : Str → Option Value} {nl : List Str}
    (X : K.In hp) (hx : hp.get? x = some { cls := .ref C, dict := some dx, data := .fields fv }) (hns : hp.Ns1 dx m0) (hw : Within m0 nl) (hz : nl.length ≤ 1000) (hcd : W.clsIn K C = some cd) (hm : MroOk x cd.mro)
    (hh : cd.hasDict = true) (ha : W.findIn K (.ref C) f = some none)
    (hq : ∀ h' tk', (∀ b o, b ≠ dx → hp.get? b = some o → h'.get? b = some o) → h'.Ns1 dx (fun y => if y = f then some v else m0 y) → R (.ok (.ret .none)) ⟨h', g, d, tk', os⟩) :
    codeAny (model prog w) A (.call (.builtin "object.__setattr__") ⟨[.ref x, .str f tk, v], []⟩) R ⟨hp, g, d, t, os⟩ := by
  obtain ⟨oD, esD, epD, hoD, hdD, _⟩ := hns.count hw
  have I : W.InstAt hp x { cls := .ref C, dict := some dx, data := .fields fv } C (some oD) := ⟨hx, rfl, rfl, hoD⟩
  have Lc : W.Looks (model prog w) hp (classData C) cd := W.looks_clsIn X hcd
  refine sa_head X I hcd hm ha fun A' => ?_
  obtain ⟨nm, bs, mro, ns, qn, hd, sn, sb, ab, col, del⟩ := cd
  dsimp only at hh
  subst hh
  unfold storeInOwnDict ownDictForStores
  repeat (first | with_reducible refine PySem.OEX.store_in_old hns hw hz ?_ | with_reducible refine wpAny_loadPart_at hx ?_ | with_reducible refine Lc.at ?_ | wp_step)
  intro h' tk' hn' hs
  exact hq h' tk' (fun b o hb ho => (hs.2 b hb).trans ho) hn'
end
end WE

namespace L2
open PySem PySem.Spec PyProof.Rows WE
/-- what the written part says of an own exception class at C, right below the built-in class B -/
structure XB (K : PySem.W.Frag) (C : Addr) (B newId initId : String) (bm : List Value) : Prop where
  F : ExcBaseFacts B newId initId bm
  S : StoreFacts B bm "object.__setattr__" "object"
  cls : ∃ nm q N bs sn sub ab col dd k0 k1 k2 k3 k5, K.lookup C = some (excClassObj nm q C N bs bm true sn sub ab col dd k0 k1 k2 k3 k5 newId)
  sa : PySem.W.findIn K (.ref C) "__setattr__" = some (some (.builtin "object.__setattr__"))
  ga : PySem.W.findIn K (.ref C) "__getattribute__" = some (some (.builtin "BaseException.__getattribute__"))
  gg : PySem.W.findIn K (.ref C) "__getattr__" = some none
  ha : PySem.W.findIn K (.ref C) "__class__" = some (some (.builtin "object.__class__"))
  exC : PySem.W.subIn K (.ref C) (.type "BaseException") = some true
  tyC : PySem.W.typeIn K (.ref C) = some (.type "type")
  kC : PySem.W.keepIn K (.ref C) = true
  hd : PySem.W.hasDictIn K C = true
  mo : PySem.W.mroIn K C (.type "object") = some true
theorem XB.clsIn {K : PySem.W.Frag} {C : Addr} {B newId initId : String} {bm : List Value} (T : XB K C B newId initId bm) : ∃ cd, PySem.W.clsIn K C = some cd ∧ cd.hasDict = true ∧ cd.mro = .ref C :: bm := by
  obtain ⟨nm, q, N, bs, sn, sub, ab, col, dd, k0, k1, k2, k3, k5, hC⟩ := T.cls
  exact ⟨{ name := nm, bases := bs, mro := .ref C :: bm, ns := N, qualname := q, hasDict := true, slotNames := sn, subclasses := sub, abstract := ab, collection := col, hasDel := false }, by unfold PySem.W.clsIn; rw [hC] <;> rfl, rfl, rfl⟩
theorem XB.ok {K : PySem.W.Frag} {C x : Addr} {B newId initId : String} {bm : List Value} (T : XB K C B newId initId bm) {cd : ClassData} (e : cd.mro = .ref C :: bm) : MroOk x cd.mro := by
  rw [e]
  exact MroOk.of T.S
section
variable {X : Cx} {pins : List (Addr × Obj)} {σ : St} {H : Hp} {s : Shared} {a C dx : Addr} {f : Str} {y : V} {u : Value} {fs : List (Str × V)} {Q : Unit → Shared → Prop} {E : Value → Shared → Prop} {A : Around} {B newId initId : String} {bm : List Value}
/-- self.f = y, the first one -/
theorem set_first (T : XB X.K C B newId initId bm) (I : Inv X pins σ H s) (e : H a = some (exo a C none)) (hno : PySem.W.findIn X.K (.ref C) f = some none) (ry : RelV y u)
    (h : ∀ dx s', H dx = none → dx ≠ a → Inv X pins σ (upd (upd H dx (exd dx [(f, y)])) a (exo a C (some dx))) s' → Q () s') : wpAny (model X.prog X.w) A (setAttr (.ref a) f u) Q E s := by
  obtain ⟨cd, hcl, hdc, hmro⟩ := T.clsIn
  obtain ⟨t1, ho⟩ := exo_at I.hok e
  obtain ⟨hp, g, d, t, os⟩ := s
  refine PySem.W.set_plain I.kIn (ox := { cls := .ref C, dict := none, data := .fields #[.ref t1, .none, .none, .none, .bool false, .none] }) (od := none) ⟨ho, rfl, rfl, trivial⟩ T.sa ?_
  refine put_first I.kIn ho hcl (T.ok hmro) hdc hno (fun h' tk' dx k dn dne hx hn => ?_)
  have hnd : H dx = none := I.hok.fresh dn
  have nd : ∀ {b : Addr} {o : Obj}, hp.get? b = some o → b ≠ dx := fun {b o} q => Nat.ne_of_lt (Nat.lt_of_lt_of_le (Heap.lt_size q) dn)
  have na : ∀ {b : Addr}, H b = none → b ≠ a := fun {b} n z => by
    rw [z, e] at n
    cases n
  refine h dx _ hnd dne (I.un (t' := tk') ⟨fun b o q n _ _ => k b o (na n) q, fun b o q n _ _ => ⟨o.slots, k b o (na n) q⟩, fun b o q n _ => ?_, fun b o q _ => ?_, fun b xs q => ?_, fun b o v q => ?_, fun b ps q => ⟨#[], ?_⟩⟩ fun b o q => ?_)
  · rw [upd_ne (na n), upd_ne (nd q)]
    exact n
  · by_cases hb : b = a
    · exact ⟨_, by rw [hb]; exact hx⟩
    · exact ⟨o, k b o hb q⟩
  · rw [upd_ne (at_ne e q exo_tup), upd_ne (ne_of_none q hnd)]
    exact q
  · rw [upd_ne (at_ne e q exo_frz), upd_ne (ne_of_none q hnd)]
    exact q
  · rw [upd_ne (at_ne e q exo_tbl), upd_ne (ne_of_none q hnd), q]
    simp
  · by_cases hb : b = a
    · subst hb
      rw [upd_same] at q
      cases q
      exact exo_ok hx
    · rw [upd_ne hb] at q
      by_cases hd : b = dx
      · subst hd
        rw [upd_same] at q
        cases q
        exact exd_ok hn (relO_put (fs := []) ry fun g => True.intro)
      · rw [upd_ne hd] at q
        exact (I.hok b o q).stay (fun c v hc z => k c v (by
            rcases hc with hc | hc
            · rw [hc]
              exact hb
            · exact at_ne e hc exo_own) z)
          (fun c hc => by rw [upd_ne (at_ne e hc exo_own), upd_ne (ne_of_none hc hnd)]; exact hc) (fun c xs hc => by rw [upd_ne (at_ne e hc exo_tup), upd_ne (ne_of_none hc hnd)]; exact hc)
/-- self.f = y, a further one -/
theorem set_more (T : XB X.K C B newId initId bm) (I : Inv X pins σ H s) (e : H a = some (exo a C (some dx))) (ed : H dx = some (exd dx fs)) (hl : fs.length ≤ 900) (hno : PySem.W.findIn X.K (.ref C) f = some none) (ry : RelV y u)
    (h : ∀ s', Inv X pins σ (upd H dx (exd dx ((f, y) :: fs))) s' → Q () s') : wpAny (model X.prog X.w) A (setAttr (.ref a) f u) Q E s := by
  obtain ⟨cd, hcl, hdc, hmro⟩ := T.clsIn
  obtain ⟨t1, ho⟩ := exo_at I.hok e
  obtain ⟨mA, hns, rel⟩ := exd_at I.hok ed
  have hw := within_of rel
  obtain ⟨hp, g, d, t, os⟩ := s
  obtain ⟨oD, _, _, hoD, _, _⟩ := hns.count hw
  refine PySem.W.set_plain I.kIn (ox := { cls := .ref C, dict := some dx, data := .fields #[.ref t1, .none, .none, .none, .bool false, .none] }) (od := some oD) ⟨ho, rfl, rfl, hoD⟩ T.sa ?_
  refine put_more I.kIn ho hns hw (by rw [List.length_map]; omega) hcl (T.ok hmro) hdc hno (fun h' tk' k hn => ?_)
  have hd : ∃ o, h'.get? dx = some o := by
    obtain ⟨o, _, _, e', _⟩ := hn
    exact ⟨o, e'⟩
  exact h _ (I.write (t' := tk') (x := dx) (e := dx) (o := exd dx ((f, y) :: fs)) (by rw [ed]; exact True.intro) (.inl rfl) k hd (exd_ok hn (relO_put ry rel)))
end
/-! ### readings and rules -/
/-- self.f = e within such an __init__ -/
def tXSet (C : Addr) (f : Str) (to te : TE) : TS := fun D σ H => te σ H fun y H1 => to σ H1 fun x H2 => ∃ a : Addr, x = .ref a ∧
  ((H2 a = some (exo a C none) ∧ ∀ dx, H2 dx = none → dx ≠ a → D.nx σ (upd (upd H2 dx (exd dx [(f, y)])) a (exo a C (some dx)))) ∨
    ∃ (dx : Addr) (fs : List (Str × V)), H2 a = some (exo a C (some dx)) ∧ H2 dx = some (exd dx fs) ∧ fs.length ≤ 900 ∧ D.nx σ (upd H2 dx (exd dx ((f, y) :: fs))))
/-- C(e, ..) as a value, C's own __init__ keeping sp -/
def tXNew (C : Addr) (sp : Sp) (ta : TA) : TE := fun σ H Q => ta σ H fun vs H1 => vs.length ≤ 1000 ∧ ∀ a, H1 a = none → sp (.ref a :: vs) (upd H1 a (exo a C none)) (fun v H2 => v = .non ∧ Q (.ref a) H2) (fun _ _ _ => False)
/-- e.f of such an exception -/
def tXGet (K : PySem.W.Frag) (f : Str) (te : TE) : TE := fun σ H Q => te σ H fun x H1 => ∃ (a C dx : Addr) (fs : List (Str × V)) (v : V), x = .ref a ∧ H1 a = some (exo a C (some dx)) ∧ H1 dx = some (exd dx fs) ∧ (∃ B newId initId bm, XB K C B newId initId bm) ∧ PySem.W.findIn K (.ref C) f = some none ∧ fs.lookup f = some v ∧ Q v H1
section
variable {X : Cx} {o e : Expr} {es : List Expr} {to te : TE} {ta : TA} {f : Str} {p p' p1 p2 pos : Pos} {B newId initId : String} {bm : List Value} {C : Addr}
theorem ps_xset (T : XB X.K C B newId initId bm) (hno : PySem.W.findIn X.K (.ref C) f = some none) (ho : PE X o to) (he : PE X e te) (hs : swapsWith e (some (.Attribute o f p')) pos.line X.env = pure false := by rfl) : PS X (.Assign [.Attribute o f p'] e pos) (tXSet C f to te) := by
  refine ⟨fun pins s σ H D I h => ?_⟩
  refine plainObj_wpAny_Assign_Attribute (thn (he.run pins s σ H _ I h) fun v s1 ⟨y, H1, I1, r1, q1⟩ => thn (ho.run pins s1 σ H1 _ I1 q1) fun u s2 ⟨x, H2, I2, r2, a, ex, q⟩ => ?_) hs
  subst ex
  obtain rfl : u = Value.ref a := r2
  rcases q with ⟨ea, q⟩ | ⟨dx, fs, ea, ed, hl, q⟩
  · exact set_first T I2 ea hno r1 fun dx s' n ne J => ⟨σ, _, J, q dx n ne⟩
  · exact set_more T I2 ea ed hl hno r1 fun s' J => ⟨σ, _, J, q⟩
theorem pe_xnew {CX : CXT} {x : Str} {fI : Addr} {k : Nat} {fd : FuncData} {ps : List Str} {sp : Sp} (T : XB X.K C B newId initId bm) (iC : PySem.W.findIn X.K (.ref C) "__init__" = some (some (.ref fI))) (tI : PySem.W.typeIn X.K (.ref fI) = some (.type "function"))
    (F1 : FnOk X.prog X.w X.K X.mg X.base CX k fI fd ps sp) (hr : Room (k + 1) X.A) (hb : Binds X.K fd ps []) (hx : Passes CX X (fun _ _ _ => False)) (hg : Gl X x) (hm : X.mg x = some (.ref C)) (ha : PA X (e :: es) ta)
    (hdb : (x == ("__debug__" : Str)) = false := by decide) (he : starEach (e :: es) X.env = (false, eval e X.env) :: starEach es X.env := by rfl) (hpl : (backTo pos (starEach es X.env)).any (·.1) = false := by rfl) :
    PE X (.Call (.Name x p) (e :: es) [] pos) (tXNew C sp ta) := by
  refine ⟨fun pins s σ H Q I h => ?_⟩
  obtain ⟨nm, q, N, bs, sn, sub, ab, col, dd, k0, k1, k2, k3, k5, hC⟩ := T.cls
  refine wpAny_Call_Name_kw (ld_glob I hg hm ?_ hdb)
  refine PySem.W.callWith_K (h₀ := X.base) I.ok.mod.kin T.kC (thn (ha.run pos pins s σ H _ I h) fun us s1 ⟨vs, H1, I1, r1, hz, q1⟩ => ⟨I1.kIn, ?_⟩) he hpl
  show wpAny _ _ (call (.ref C) us) _ _ _
  obtain ⟨hp, g, dr, tk, os⟩ := s1
  have hsz : hp.objs.size ≤ hp.objs.size + 1 := Nat.le_succ _
  have hn : H1 (hp.objs.size + 1) = none := I1.hok.fresh hsz
  have hq := q1 (hp.objs.size + 1) hn
  have kk : ∀ b o, hp.get? b = some o → ((hp.push (PySem.W.kdv_tup us)).push (PySem.HandSPX.excO C hp.objs.size)).get? b = some o := fun b o e => Heap.get?_push_of_some _ (Heap.get?_push_of_some _ e)
  have hget : ((hp.push (PySem.W.kdv_tup us)).push (PySem.HandSPX.excO C hp.objs.size)).get? (hp.objs.size + 1) = some (PySem.HandSPX.excO C hp.objs.size) := by heap_get
  have I2 : Inv X pins σ (upd H1 (hp.objs.size + 1) (exo (hp.objs.size + 1) C none)) ⟨(hp.push (PySem.W.kdv_tup us)).push (PySem.HandSPX.excO C hp.objs.size), g, dr, tk, os⟩ :=
    I1.laid (t' := tk) (a := hp.objs.size + 1) (o := exo (hp.objs.size + 1) C none) (h' := (hp.push (PySem.W.kdv_tup us)).push (PySem.HandSPX.excO C hp.objs.size)) kk hsz (exo_ok hget)
  have r2 : Vals (V.ref (hp.objs.size + 1) :: vs) (Value.ref (hp.objs.size + 1) :: us) := .cons rfl r1
  have hl : (Value.ref (hp.objs.size + 1) :: us).length = ps.length := by
    have e := r2.length
    rw [F1.len _ _ _ _ hq] at e
    exact e.symm
  have hus : us.length ≤ sizeLine := by
    rw [← Paired.length r1, sizeLine_eq]
    omega
  have hbb := hb ⟨(hp.push (PySem.W.kdv_tup us)).push (PySem.HandSPX.excO C hp.objs.size), g, dr, tk, os⟩ (Value.ref (hp.objs.size + 1) :: us) I2.kIn (by rw [List.append_nil]; exact hl)
  rw [List.append_nil] at hbb
  refine wpAny_call (PySem.HandSPX.call_own T.F (fun Y => rfl) (I1.kIn _ _ hC) (PySem.W.looks_findIn I1.kIn iC) (fun self => PySem.W.bind_fn I1.kIn self tI) hus
    (codeAny_mono (F1.run _ X.stack _ _ ⟨Value.ref (hp.objs.size + 1) :: us, []⟩ (Value.ref (hp.objs.size + 1) :: us) _ _ (fun _ _ _ => False) (hr.make C us []) (I2.env0.make C us []) hbb r2 hq) fun r s' hq' => ?_))
  cases r with
  | error er => exact hx pins σ _ _ er s' I2 hq'
  | ok fl =>
    cases fl with
    | ret u =>
      obtain ⟨v, H2, os2, bare2, un2, hok2, rv, ev, q2⟩ := hq'
      subst ev
      obtain ⟨h2, g2, d2, t2, os'⟩ := s'
      exact ⟨rv, .ref (hp.objs.size + 1), H2, I2.call' (ch := []) os2 un2 hok2 bare2 (fun b z => absurd z (by simp)), rfl, q2⟩
    | next => exact False.elim hq'
    | brk => exact False.elim hq'
    | cont => exact False.elim hq'
end
end L2

namespace L2
open PySem PySem.Spec PyProof.Rows WE
/-- an exception of an own class, whole: no dict, or its dict's fields -/
def ExAt (H : Hp) (a C : Addr) (fs : List (Str × V)) : Prop := (H a = some (exo a C none) ∧ fs = []) ∨ ∃ dx, H a = some (exo a C (some dx)) ∧ H dx = some (exd dx fs)
theorem ExAt.inst {P : Program} {w : World} {H : Hp} {h : Heap} {a C : Addr} {fs : List (Str × V)} (hok : HOk P w H h) (z : ExAt H a C fs) :
    ∃ (ox : Obj) (oD : Option Obj), PySem.W.InstAt h a ox C oD ∧ (∀ mAo, (∀ dx, ox.dict = some dx → ∃ mA, h.Ns1 dx mA ∧ (∀ f, RelO (fs.lookup f) (mA f)) ∧ mAo = some mA) → True) := by
  rcases z with ⟨e, _⟩ | ⟨dx, e, ed⟩
  · obtain ⟨t1, ho⟩ := exo_at hok e
    exact ⟨_, none, ⟨ho, rfl, rfl, trivial⟩, fun _ _ => trivial⟩
  · obtain ⟨t1, ho⟩ := exo_at hok e
    obtain ⟨mA, hns, rel⟩ := exd_at hok ed
    obtain ⟨oD, _, _, hoD, _, _⟩ := hns.count (within_of rel)
    exact ⟨_, some oD, ⟨ho, rfl, rfl, hoD⟩, fun _ _ => trivial⟩
/-- isinstance(e, c); isinstance(e, (c1, c2, ..)) -/
def rIsX (K : PySem.W.Frag) : List V → Hp → VK → Prop := fun xs H Q => ∃ (a C : Addr) (fs : List (Str × V)) (c : V) (u : Value) (b : Bool), xs = [.ref a, c] ∧ ExAt H a C fs ∧ ClsV c u ∧
  (∃ B newId initId bm, XB K C B newId initId bm) ∧ PySem.W.kitOne K (.ref C) u = some b ∧ Q (.bl b) H
def rIsXT (K : PySem.W.Frag) : List V → Hp → VK → Prop := fun xs H Q => ∃ (a C tp : Addr) (fs : List (Str × V)) (cs : List V) (us : List Value) (b : Bool), xs = [.ref a, .ref tp] ∧ ExAt H a C fs ∧ H tp = some (.tup cs) ∧ Paired ClsV cs us ∧
  (∃ B newId initId bm, XB K C B newId initId bm) ∧ PySem.W.kitAny K (.ref C) us = some b ∧ Q (.bl b) H
theorem kit_xb {K : PySem.W.Frag} {x C : Addr} {ox : Obj} {od : Option Obj} (T : ∃ B newId initId bm, XB K C B newId initId bm)
    (hn : PySem.W.specialIn K (.builtin "object.__class__") "__get__" = some (some (.builtin "getset_descriptor.__get__"))) (ht : PySem.W.takesIn K (.builtin "object.__class__") = some true) :
    PySem.W.KitX K (.ref x) (.ref C) (fun h => PySem.W.InstAt h x ox C od) := by
  obtain ⟨B, newId, initId, bm, T⟩ := T
  obtain ⟨cd, hcl, _⟩ := T.clsIn
  exact PySem.W.kitx_exc (by rw [hcl]; rfl) T.ga T.gg T.exC T.ha hn ht T.mo
/-- what the written part says of object.__class__ -/
structure ObCls (K : PySem.W.Frag) : Prop where
  hn : PySem.W.specialIn K (.builtin "object.__class__") "__get__" = some (some (.builtin "getset_descriptor.__get__"))
  ht : PySem.W.takesIn K (.builtin "object.__class__") = some true
section
variable {X : Cx}
theorem call_isX (O : ObCls X.K) : CallR X (.builtin "isinstance") (rIsX X.K) := by
  intro pins s σ H xs us Q I r h
  obtain ⟨a, C, fs, c, u, b, rfl, z, k, T, e, q⟩ := h
  obtain ⟨u1, u2, rfl, r1, r2⟩ := vals2 r
  have e2 := k.eq r2
  subst e2
  cases r1
  obtain ⟨ox, oD, J, _⟩ := z.inst I.hok
  exact PySem.W.kia_one (kit_xb T O.hn O.ht) I.kIn J e (fun z => nomatch z) fun tk => ⟨.bl b, H, I.tok tk, rfl, q⟩
theorem call_isXT (O : ObCls X.K) : CallR X (.builtin "isinstance") (rIsXT X.K) := by
  intro pins s σ H xs us Q I r h
  obtain ⟨a, C, tp, fs, cs, ws, b, rfl, z, hT, k, T, e, q⟩ := h
  obtain ⟨u1, u2, rfl, r1, r2⟩ := vals2 r
  cases r1
  cases (show u2 = Value.ref tp from r2)
  obtain ⟨ox, oD, J, _⟩ := z.inst I.hok
  obtain ⟨_, its, rv, o, h1, h2, n, h3⟩ := (show ObjOk X.prog X.w H s.heap tp (.tup cs) from I.hok tp _ hT)
  have e3 := ClsV.all k rv
  subst e3
  obtain ⟨oc, od, dt, sl⟩ := o
  simp only at h2 h3
  subst h2 h3
  exact PySem.W.kia_tup (kit_xb T O.hn O.ht) I.kIn J h1 e (fun z => nomatch z) fun tk => ⟨.bl b, H, I.tok tk, rfl, q⟩
end
section
variable {X : Cx} {e : Expr} {te : TE} {f : Str} {p pos : Pos} {B newId initId : String} {bm : List Value} {C : Addr}
theorem pe_xget (he : PE X e te) (hb : attributeBase e f X.env (eval e X.env) = eval e X.env := by rfl) : PE X (.Attribute e f pos) (tXGet X.K f te) := by
  refine ⟨fun pins s σ H Q I h => ?_⟩
  refine attr_of hb (thn (he.run pins s σ H _ I h) fun u s1 hh => ?_)
  obtain ⟨x, H1, I1, rx, a, C, dx, fs, v, ex, ea, ed, ⟨B, newId, initId, bm, T⟩, hno, l, q⟩ := hh
  subst ex
  obtain rfl : u = Value.ref a := rx
  obtain ⟨t1, ho⟩ := exo_at I1.hok ea
  obtain ⟨mA, hns, hr⟩ := exd_at I1.hok ed
  obtain ⟨od, hod, hl⟩ := lookIn_ns hns
  obtain ⟨u, hu, ru⟩ := RelO.some_of (v := v) (o := mA f) (by rw [← l]; exact hr f)
  have J : PySem.W.InstAt s1.heap a { cls := .ref C, dict := some dx, data := .fields #[.ref t1, .none, .none, .none, .bool false, .none] } C (some od) := ⟨ho, rfl, rfl, hod⟩
  exact PySem.HandSPX.exc_get I1.kIn J T.ga T.gg T.exC (PySem.W.findObj_own T.hd hno rfl (by rw [hl, hu])) (handed_of ru) ⟨v, H1, I1.tok _, ru, q⟩
/-- C(): an own exception class without an __init__ of its own -/
theorem pe_xnew0 {x : Str} (T : XB X.K C B newId initId bm) (q : PySem.W.excIn X.K C bm newId = true) (hg : Gl X x) (hm : X.mg x = some (.ref C)) (hdb : (x == ("__debug__" : Str)) = false := by decide) :
    PE X (.Call (.Name x p) [] [] pos) (fun σ H Q => ∀ a, H a = none → Q (.ref a) (upd H a (exo a C none))) := by
  refine ⟨fun pins s σ H Q I h => ?_⟩
  refine wpAny_Call_Name_kw (ld_glob I hg hm ?_ hdb)
  refine PySem.W.callWith_K0 I.kIn T.kC ?_
  obtain ⟨bm', N, nm, qn, bs, hdct, sn, sub, ab, col, dd, k0, k1, k2, k3, k5, mN, hC, hN, hni, OT⟩ := exc_obj I.kIn q
  refine wpAny_call_exc_subT T.F OT hC hN hni (fun h' a hm => ?_) (Nat.zero_le _)
  have hn : H a = none := I.hok.gone hm.new
  obtain ⟨t, ht, _, _⟩ := hm.there
  exact ⟨.ref a, upd H a (exo a C none), I.laidN hm.keeps hm.new hn (exo_ok ht), rfl, h a hn⟩
end
end L2

namespace L2
open PySem PySem.Spec PyProof.Rows WE
/-- isinstance of an exception of the class at C, against a class as a value -/
def isV (K : PySem.W.Frag) (C : Addr) : V → Option Bool
  | .ty n => PySem.W.kitOne K (.ref C) (.type n)
  | .ref D => PySem.W.kitOne K (.ref C) (.ref D)
  | _ => none
def clsU : V → Value
  | .ty n => .type n
  | .ref D => .ref D
  | _ => .none
theorem isV_ok {K : PySem.W.Frag} {C : Addr} {c : V} {b : Bool} (h : isV K C c = some b) : ClsV c (clsU c) ∧ PySem.W.kitOne K (.ref C) (clsU c) = some b := by
  cases c with
  | ty n => exact ⟨.ty n, h⟩
  | ref D => exact ⟨.own D, h⟩
  | _ => cases h
def isVs (K : PySem.W.Frag) (C : Addr) : List V → Option Bool
  | [] => some false
  | c :: r => match isV K C c with
    | some true => if r.all (fun d => match d with | .ty _ => true | .ref _ => true | _ => false) then some true else none
    | some false => isVs K C r
    | none => none
theorem clsAll : ∀ {r : List V}, r.all (fun d => match d with | .ty _ => true | .ref _ => true | _ => false) = true → Paired ClsV r (r.map clsU)
  | [], _ => .nil
  | c :: r, h => by
    rw [List.all_cons, Bool.and_eq_true] at h
    refine .cons ?_ (clsAll h.2)
    cases c with
    | ty n => exact .ty n
    | ref D => exact .own D
    | _ => cases h.1
theorem isVs_ok {K : PySem.W.Frag} {C : Addr} : ∀ {cs : List V} {b : Bool}, isVs K C cs = some b → Paired ClsV cs (cs.map clsU) ∧ PySem.W.kitAny K (.ref C) (cs.map clsU) = some b
  | [], b, h => ⟨.nil, h⟩
  | c :: r, b, h => by
    unfold isVs at h
    cases e : isV K C c with
    | none =>
      rw [e] at h
      cases h
    | some q =>
      rw [e] at h
      obtain ⟨k1, k2⟩ := isV_ok e
      cases q with
      | true =>
        simp only at h
        split at h
        · rename_i hr
          cases h
          exact ⟨.cons k1 (clsAll hr), kitAny_cons k2 (fun z => nomatch z) fun _ => rfl⟩
        · cases h
      | false =>
        obtain ⟨k3, k4⟩ := isVs_ok (cs := r) h
        exact ⟨.cons k1 k3, kitAny_cons k2 (fun _ => k4) fun z => nomatch z⟩
section
variable {X : Cx} {C : Addr} {fs : List (Str × V)}
theorem w_isx (O : ObCls X.K) (T : ∃ B newId initId bm, XB X.K C B newId initId bm) : CallR X (.builtin "isinstance") (fun xs H Q => ∃ a c, xs = [.ref a, c] ∧ ExAt H a C fs ∧ ∃ b, isV X.K C c = some b ∧ Q (.bl b) H) := by
  intro pins s σ H xs us Q I r h
  obtain ⟨a, c, rfl, z, b, e, q⟩ := h
  obtain ⟨k1, k2⟩ := isV_ok e
  exact call_isX O pins s σ H _ us Q I r ⟨a, C, fs, c, _, b, rfl, z, k1, T, k2, q⟩
theorem w_isxt (O : ObCls X.K) (T : ∃ B newId initId bm, XB X.K C B newId initId bm) : CallR X (.builtin "isinstance") (fun xs H Q => ∃ a tp cs, xs = [.ref a, .ref tp] ∧ H tp = some (.tup cs) ∧ ExAt H a C fs ∧ ∃ b, isVs X.K C cs = some b ∧ Q (.bl b) H) := by
  intro pins s σ H xs us Q I r h
  obtain ⟨a, tp, cs, rfl, ht, z, b, e, q⟩ := h
  obtain ⟨k1, k2⟩ := isVs_ok e
  exact call_isXT O pins s σ H _ us Q I r ⟨a, C, tp, fs, cs, _, b, rfl, z, ht, k1, T, k2, q⟩
end
theorem ExAt.upd {H : Hp} {a C p : Addr} {fs : List (Str × V)} {o : HO} (z : ExAt H a C fs) (hp : H p = none) : ExAt (upd H p o) a C fs := by
  rcases z with ⟨e, q⟩ | ⟨dx, e, ed⟩
  · exact .inl ⟨by rw [upd_ne (ne_of_none e hp)]; exact e, q⟩
  · exact .inr ⟨dx, by rw [upd_ne (ne_of_none e hp)]; exact e, by rw [upd_ne (ne_of_none ed hp)]; exact ed⟩
/-- an own exception class, known by what its own __init__ promises -/
structure Xk (P : Program) (w : World) (K : PySem.W.Frag) (mg : Str → Option Value) (base : Heap) (x : Str) (C : Addr) (ps : List Str) (sp : Sp) : Prop where
  ex : ∃ (B newId initId : String) (bm : List Value) (fI : Addr) (fd : FuncData), XB K C B newId initId bm ∧ PySem.W.findIn K (.ref C) "__init__" = some (some (.ref fI)) ∧ PySem.W.typeIn K (.ref fI) = some (.type "function") ∧
    FnOk P w K mg base CX0 1 fI fd ps sp ∧ Binds K fd ps [] ∧ mg x = some (.ref C)
theorem Xk.xb {P : Program} {w : World} {K : PySem.W.Frag} {mg : Str → Option Value} {base : Heap} {x : Str} {C : Addr} {ps : List Str} {sp : Sp} (c : Xk P w K mg base x C ps sp) : ∃ B newId initId bm, XB K C B newId initId bm := by
  obtain ⟨B, newId, initId, bm, fI, fd, T, _⟩ := c.ex
  exact ⟨B, newId, initId, bm, T⟩
theorem Xk.mg {P : Program} {w : World} {K : PySem.W.Frag} {mg : Str → Option Value} {base : Heap} {x : Str} {C : Addr} {ps : List Str} {sp : Sp} (c : Xk P w K mg base x C ps sp) : mg x = some (.ref C) := by
  obtain ⟨B, newId, initId, bm, fI, fd, T, _, _, _, _, h⟩ := c.ex
  exact h
/-- .. without an __init__ of its own -/
structure Xk0 (K : PySem.W.Frag) (mg : Str → Option Value) (x : Str) (C : Addr) : Prop where
  ex : ∃ (B newId initId : String) (bm : List Value), XB K C B newId initId bm ∧ PySem.W.excIn K C bm newId = true ∧ mg x = some (.ref C)
theorem Xk0.xb {K : PySem.W.Frag} {mg : Str → Option Value} {x : Str} {C : Addr} (c : Xk0 K mg x C) : ∃ B newId initId bm, XB K C B newId initId bm := by
  obtain ⟨B, newId, initId, bm, T, _⟩ := c.ex
  exact ⟨B, newId, initId, bm, T⟩
theorem Xk0.mg {K : PySem.W.Frag} {mg : Str → Option Value} {x : Str} {C : Addr} (c : Xk0 K mg x C) : mg x = some (.ref C) := by
  obtain ⟨B, newId, initId, bm, _, _, h⟩ := c.ex
  exact h
section
variable {X : Cx} {x : Str} {C : Addr} {ps : List Str} {sp : Sp} {p pos : Pos} {e : Expr} {es : List Expr} {ta : TA} {j : Nat}
theorem pe_xk (c : Xk X.prog X.w X.K X.mg X.base x C ps sp) (hr : Room j X.A) (hj : 2 ≤ j) (hg : Gl X x) (ha : PA X (e :: es) ta)
    (hdb : (x == ("__debug__" : Str)) = false := by decide) (he : starEach (e :: es) X.env = (false, eval e X.env) :: starEach es X.env := by rfl) (hpl : (backTo pos (starEach es X.env)).any (·.1) = false := by rfl) :
    PE X (.Call (.Name x p) (e :: es) [] pos) (tXNew C sp ta) := by
  obtain ⟨B, newId, initId, bm, fI, fd, T, iC, tI, F, b, hm⟩ := c.ex
  exact pe_xnew T iC tI F (hr.mono hj) b pass0 hg hm ha hdb he hpl
theorem pe_xk0 (c : Xk0 X.K X.mg x C) (hg : Gl X x) (hdb : (x == ("__debug__" : Str)) = false := by decide) :
    PE X (.Call (.Name x p) [] [] pos) (fun σ H Q => ∀ a, H a = none → Q (.ref a) (L2.upd H a (exo a C none))) := by
  obtain ⟨B, newId, initId, bm, T, q, hm⟩ := c.ex
  exact pe_xnew0 T q hg hm hdb
end
/-- what the __init__ of an exception with one field | two fields promises -/
def spX1 (C : Addr) (f : Str) : Sp := fun vs H Q _ => ∃ (a : Addr) (y : V), vs = [.ref a, y] ∧ H a = some (exo a C none) ∧ ∀ dx, H dx = none → dx ≠ a → Q .non (upd (upd H dx (exd dx [(f, y)])) a (exo a C (some dx)))
def spX2 (C : Addr) (f g : Str) : Sp := fun vs H Q _ => ∃ (a : Addr) (y z : V), vs = [.ref a, y, z] ∧ H a = some (exo a C none) ∧ ∀ dx, H dx = none → dx ≠ a → Q .non (upd (upd H dx (exd dx [(g, z), (f, y)])) a (exo a C (some dx)))
end L2
namespace L2
theorem ExAt.same {H H' : Hp} {a C : PySem.Addr} {fs : List (PySem.Str × V)} (z : ExAt H a C fs) (s : Same H H') : ExAt H' a C fs := by
  rcases z with ⟨e, q⟩ | ⟨dx, e, ed⟩
  · exact .inl ⟨s _ _ e, q⟩
  · exact .inr ⟨dx, s _ _ e, s _ _ ed⟩
end L2
namespace L2
open PySem PySem.Spec PyProof.Rows WE
/-! ### the facts of such a class, looked at by a program -/
def xbB (K : PySem.W.Frag) (C : Addr) (bm : List Value) (newId : String) : Bool :=
  (match K.lookup C with
  | some ⟨.type "type", _, .cls cd, sl⟩ => (match sl.toList with
    | [_, _, _, _, some (.builtin n), _] => decide (n = newId) && (decide (cd.mro = .ref C :: bm) && (cd.hasDict && !cd.hasDel))
    | _ => false)
  | _ => false) &&
  (decide (PySem.W.findIn K (.ref C) "__setattr__" = some (some (.builtin "object.__setattr__"))) && (decide (PySem.W.findIn K (.ref C) "__getattribute__" = some (some (.builtin "BaseException.__getattribute__"))) &&
  (decide (PySem.W.findIn K (.ref C) "__getattr__" = some none) && (decide (PySem.W.findIn K (.ref C) "__class__" = some (some (.builtin "object.__class__"))) && (decide (PySem.W.subIn K (.ref C) (.type "BaseException") = some true) &&
  (decide (PySem.W.typeIn K (.ref C) = some (.type "type")) && (PySem.W.keepIn K (.ref C) && (PySem.W.hasDictIn K C && decide (PySem.W.mroIn K C (.type "object") = some true)))))))))
theorem xbB_ok {K : PySem.W.Frag} {C : Addr} {B newId initId : String} {bm : List Value} (F : ExcBaseFacts B newId initId bm) (S : StoreFacts B bm "object.__setattr__" "object") (h : xbB K C bm newId = true) : XB K C B newId initId bm := by
  unfold xbB at h
  simp only [Bool.and_eq_true, decide_eq_true_eq] at h
  obtain ⟨h0, h1, h2, h3, h4, h5, h6, h7, h8, h9⟩ := h
  refine ⟨F, S, ?_, h1, h2, h3, h4, h5, h6, h7, h8, h9⟩
  split at h0
  · rename_i dd cd sl e
    split at h0
    · rename_i k0 k1 k2 k3 n k5 hs
      simp only [Bool.and_eq_true, decide_eq_true_eq, Bool.not_eq_true'] at h0
      obtain ⟨rfl, hm, hdc, hdel⟩ := h0
      obtain ⟨nm, bs, mro, ns, qn, hd, sn, sub, ab, col, del⟩ := cd
      dsimp only at hm hdc hdel
      subst hm hdc hdel
      have hsl : sl = #[k0, k1, k2, k3, some (.builtin n), k5] := by
        obtain ⟨l⟩ := sl
        simp only at hs
        rw [hs]
      subst hsl
      exact ⟨nm, qn, ns, bs, sn, sub, ab, col, _, k0, k1, k2, k3, k5, e⟩
    · cases h0
  · cases h0
def obB (K : PySem.W.Frag) : Bool := decide (PySem.W.specialIn K (.builtin "object.__class__") "__get__" = some (some (.builtin "getset_descriptor.__get__"))) && decide (PySem.W.takesIn K (.builtin "object.__class__") = some true)
theorem obB_ok {K : PySem.W.Frag} (h : obB K = true) : ObCls K := by
  obtain ⟨h1, h2⟩ := Bool.and_eq_true_iff.mp h
  exact ⟨of_decide_eq_true h1, of_decide_eq_true h2⟩
end L2
set_option Elab.async false
set_option linter.all false
set_option maxRecDepth 100000
set_option maxHeartbeats 4000000
/-! Short words: a def known by its promise, loops over enumerate, the bag of a law. -/
namespace L2
open PySem PySem.Spec PyProof.Rows
/-- a def of the text, known by its promise (at most level k, exceptions as CX says) -/
structure Cl (P : Program) (w : World) (K : PySem.W.Frag) (mg : Str → Option Value) (base : Heap) (CX : CXT) (k : Nat) (x : Str) (ps : List Str) (sp : Sp) : Prop where
  ex : ∃ (f : Addr) (fd : FuncData), FnOk P w K mg base CX k f fd ps sp ∧ mg x = some (.ref f) ∧ PySem.W.keepIn K (.ref f) = true ∧ Binds K fd ps []
section
variable {X : Cx} {k j : Nat} {x : Str} {ps : List Str} {sp : Sp} {p pos : Pos} {e : Expr} {es : List Expr} {t : TA}
theorem pe_cl (c : Cl X.prog X.w X.K X.mg X.base CX0 k x ps sp) (hr : Room j X.A) (hk : k ≤ j) (hg : Gl X x) (ha : PA X (e :: es) t)
    (hdb : (x == ("__debug__" : Str)) = false := by decide) (he : starEach (e :: es) X.env = (false, eval e X.env) :: starEach es X.env := by rfl) (hpl : (backTo pos (starEach es X.env)).any (·.1) = false := by rfl) :
    PE X (.Call (.Name x p) (e :: es) [] pos) (tCall sp [] E0 t) := by
  obtain ⟨f, fd, F, hm, kp, hb⟩ := c.ex
  exact pe_call F (hr.mono hk) hg hm kp hb .nil pass0 ha hdb he hpl
theorem pe_cl0 (c : Cl X.prog X.w X.K X.mg X.base CX0 k x ps sp) (hr : Room j X.A) (hk : k ≤ j) (hg : Gl X x) (hdb : (x == ("__debug__" : Str)) = false := by decide) :
    PE X (.Call (.Name x p) [] [] pos) (tCall sp [] E0 tNil) := by
  obtain ⟨f, fd, F, hm, kp, hb⟩ := c.ex
  exact pe_call0 F (hr.mono hk) hg hm kp hb .nil pass0 hdb
end
/-- over enumerate of a list that the body leaves as it is -/
theorem for_enum {K : PySem.W.Frag} {a : Addr} {xs : List V} {g : TG} {tb : TS} {D : Ends} {σ : St} {H : Hp} (Pv : Nat → St → Hp → Prop) (h0 : Pv 0 σ H) (hl : ∀ i σ H, i ≤ xs.length → Pv i σ H → SqL K H a xs)
    (hs : ∀ i x σ H T, xs[i]? = some x → Pv i σ H → H T = none → g (.ref T) σ (upd H T (.tup [.int (i : Nat), x])) fun σ2 H2 => tb { D with nx := Pv (i + 1), ct := Pv (i + 1), bk := D.nx } σ2 H2) (hd : ∀ σ H, Pv xs.length σ H → D.nx σ H) :
    ∃ W : Nat → Nat → St → Hp → Prop, (∃ m, W 0 m σ H) ∧ ∀ i m σ H, W i m σ H →
      ((Ite K a).stop i H ∧ D.nx σ H) ∨ ((Ite K a).go i H ∧ ∃ N : St → Hp → Prop, (∀ σ' H', N σ' H' → ∃ m', m' < m ∧ W (i + 1) m' σ' H') ∧ ∀ x H', (Ite K a).yld i H x H' → g x σ H' fun σ2 H2 => tb { D with nx := N, ct := N, bk := D.nx } σ2 H2) := by
  refine ⟨fun i m σ H => m = xs.length - i ∧ i ≤ xs.length ∧ Pv i σ H, ⟨xs.length, by simp, Nat.zero_le _, h0⟩, ?_⟩
  rintro i m σ H ⟨rfl, hi, p⟩
  have q := hl i σ H hi p
  by_cases hlt : i < xs.length
  · refine .inr ⟨⟨xs, xs[i], q, by simp [hlt]⟩, Pv (i + 1), fun σ' H' p' => ⟨xs.length - (i + 1), by omega, rfl, hlt, p'⟩, fun x H' y => ?_⟩
    obtain ⟨T, z, rfl, hT, rfl, y⟩ := y
    exact hs i z σ H T (y xs q) p hT
  · have e : i = xs.length := by omega
    subst e
    exact .inl ⟨⟨xs, q, Nat.le_refl _⟩, hd σ H p⟩
/-! ### rules by other readings -/
section
variable {X : Cx}
theorem CallR.imp {f : Value} {r r' : List V → Hp → VK → Prop} (h : CallR X f r) (k : ∀ xs H Q, r' xs H Q → r xs H Q) : CallR X f r' := fun pins s σ H xs us Q I rv q => h pins s σ H xs us Q I rv (k _ _ _ q)
theorem OpR.imp {f : Value → Value → Sem Value} {r r' : R2} (h : OpR X f r) (k : ∀ x y H Q, r' x y H Q → r x y H Q) : OpR X f r' := fun pins s σ H x y v u Q I rx ry q => h pins s σ H x y v u Q I rx ry (k _ _ _ _ q)
theorem IxR.imp {r r' : R2} (h : IxR X r) (k : ∀ x y H Q, r' x y H Q → r x y H Q) : IxR X r' := fun a b pins s σ H x y v u Q I rx ry q => h a b pins s σ H x y v u Q I rx ry (k _ _ _ _ q)
theorem MtR.imp {id : String} {r r' : V → List V → Hp → VK → Prop} (h : MtR X id r) (k : ∀ x xs H Q, r' x xs H Q → r x xs H Q) : MtR X id r' := fun pins s σ H x xs v us Q I rx rv q => h pins s σ H x xs v us Q I rx rv (k _ _ _ _ q)
/-- len of a list that may be read -/
theorem w_len : CallR X (.builtin "len") (fun xs H Q => ∃ p ys, xs = [.ref p] ∧ SqL X.K H p ys ∧ Q (.int (ys.length : Nat)) H) :=
  call_len.imp fun xs H Q h => by
    obtain ⟨p, ys, rfl, e, q⟩ := h
    exact ⟨.ref p, ys.length, rfl, .inl ⟨ys, e, rfl⟩, q⟩
/-- .. of a list of ours -/
theorem w_lenM : CallR X (.builtin "len") (fun xs H Q => ∃ p ys, xs = [.ref p] ∧ H p = some (.lst ys) ∧ Q (.int (ys.length : Nat)) H) :=
  w_len.imp fun xs H Q h => by
    obtain ⟨p, ys, rfl, e, q⟩ := h
    exact ⟨p, ys, rfl, .of e, q⟩
theorem w_int : CallR X (.type "int") (fun xs H Q => ∃ i, xs = [.int i] ∧ Q (.int i) H) := call_int1.imp fun xs H Q h => .inl h
theorem w_ix : IxR X (fun x y H Q => ∃ p xs i v, x = .ref p ∧ y = .int i ∧ H p = some (.lst xs) ∧ atI xs i = some v ∧ Q v H) :=
  ix_list.imp fun x y H Q h => by
    obtain ⟨p, xs, i, v, rfl, rfl, e, h⟩ := h
    exact ⟨p, xs, i, v, rfl, rfl, .of e, h⟩
end
/-- the laws' bag: a list of three ints -/
def BagAt (H : Hp) (b : Addr) (n : Nat) : Prop := ∃ g x c : Int, H b = some (.lst [.int g, .int x, .int c]) ∧ 0 ≤ g ∧ 0 ≤ x ∧ x < 2147483648 ∧ 0 ≤ c ∧ c ≤ n
end L2
namespace L2
theorem upd_comm {H : Hp} {a b : PySem.Addr} {o u : HO} (h : a ≠ b) : upd (upd H a o) b u = upd (upd H b u) a o := by
  funext c
  unfold upd
  by_cases h1 : c = a
  · rw [if_pos h1, if_neg (by rw [h1]; exact h), if_pos h1]
  · rw [if_neg h1, if_neg h1]
end L2
namespace L2
open PySem PySem.Spec PyProof.Rows
/-- a statement, then the rest from whatever the first is said to leave -/
def tMid (t u : TS) : TS := fun D σ H => ∃ Mid : St → Hp → Prop, t { D with nx := Mid } σ H ∧ ∀ σ' H', Mid σ' H' → u D σ' H'
theorem pss_mid {X : Cx} {st : Stmt} {rest : List Stmt} {t u : TS} (ht : PS X st t) (hu : PSs X rest u) : PSs X (st :: rest) (tMid t u) := by
  constructor
  rintro pins s σ H D I ⟨Mid, h1, h2⟩
  refine wpAny_execs_cons (thn (ht.run pins s σ H { D with nx := Mid } I h1) fun f s' q => ?_)
  match f, q with
  | .next, ⟨σ', H', I', q'⟩ => exact hu.run pins s' σ' H' D I' (h2 σ' H' q')
  | .ret _, q => exact q
  | .brk, q => exact q
  | .cont, q => exact q
end L2
namespace L2
open PySem PySem.Spec PyProof.Rows
theorem PE.imp {X : Cx} {e : Expr} {t t' : TE} (h : PE X e t) (k : ∀ σ H Q, t' σ H Q → t σ H Q) : PE X e t' := ⟨fun pins s σ H Q I q => h.run pins s σ H Q I (k σ H Q q)⟩
theorem tyV_l {K : PySem.W.Frag} {H : Hp} {p : Addr} (h : ∃ xs, H p = some (.lst xs)) : tyV K "list" (.ref p) H := by
  obtain ⟨xs, e⟩ := h
  exact .inl ⟨rfl, xs, .of e⟩
end L2
namespace L2
theorem same_new {H : Hp} {p : PySem.Addr} {o : HO} (h : H p = none) : Same H (upd H p o) := fun b u z => by rw [upd_ne (ne_of_none z h)]; exact z
theorem same_upd {H H1 : Hp} {p : PySem.Addr} {o : HO} (s : Same H H1) (h : H p = none) : Same H (upd H1 p o) := fun b u z => by rw [upd_ne (ne_of_none z h)]; exact s b u z
end L2
namespace L2
theorem upd_none {H : Hp} {a b : PySem.Addr} {o : HO} : upd H a o b = none ↔ ¬ b = a ∧ H b = none := by
  unfold upd
  by_cases h : b = a
  · rw [if_pos h]
    constructor
    · intro z
      cases z
    · intro z
      exact absurd h z.1
  · rw [if_neg h]
    constructor
    · intro z
      exact ⟨h, z⟩
    · intro z
      exact z.2
end L2
namespace L2
theorem upd_n1 {H : Hp} {a b : PySem.Addr} {o : HO} (h : ¬ b = a) : upd H a o b = H b := upd_ne h
theorem upd_n2 {H : Hp} {a b : PySem.Addr} {o : HO} (h : ¬ a = b) : upd H a o b = H b := upd_ne fun z => h z.symm
theorem same_add {H H1 : Hp} {p : PySem.Addr} {o : HO} (s : Same H H1) (h : H p = none) : Same H (upd H1 p o) := same_upd s h
end L2
namespace L2
open PySem
theorem seq_new {K : PySem.W.Frag} {H : Hp} {a p : Addr} {xs : List V} {o : HO} (h : SqL K H a xs) (hp : H p = none) : SqL K (upd H p o) a xs := Same.seq (same_new hp) h
end L2
set_option Elab.async false
set_option linter.all false
set_option maxRecDepth 100000
set_option maxHeartbeats 4000000
namespace L2
open PySem PySem.Spec PyProof.Rows
/-- one of the values that the law hands to an exception -/
def Th (H : Hp) (x : V) : Prop := x = .non ∨ x = .int 0 ∨ x = .str "a" ∨ x = .bl true ∨ (∃ a, x = .ref a ∧ H a = some (.tup [.str "a", .int 1])) ∨ (∃ a, x = .ref a ∧ H a = some (.lst [.int 1])) ∨ ∃ a, x = .ref a ∧ H a = some (.dK [((Sum.inr "a" : Key), .int 1)])
theorem Th.same {H H' : Hp} {x : V} (t : Th H x) (s : Same H H') : Th H' x := by
  rcases t with h | h | h | h | ⟨a, h, e⟩ | ⟨a, h, e⟩ | ⟨a, h, e⟩
  · exact .inl h
  · exact .inr (.inl h)
  · exact .inr (.inr (.inl h))
  · exact .inr (.inr (.inr (.inl h)))
  · exact .inr (.inr (.inr (.inr (.inl ⟨a, h, s _ _ e⟩))))
  · exact .inr (.inr (.inr (.inr (.inr (.inl ⟨a, h, s _ _ e⟩)))))
  · exact .inr (.inr (.inr (.inr (.inr (.inr ⟨a, h, s _ _ e⟩)))))
/-- x == x of such a value -/
def rSame : R2 := fun x y H Q => y = x ∧ Th H x ∧ Q (.bl true) H
theorem op_same {X : Cx} (hu : X.A.units + 64 < cLine) : OpR X (compareOp .Eq) rSame := by
  intro pins s σ H x y v u Q I rx ry h
  obtain ⟨rfl, t, q⟩ := h
  rcases t with rfl | rfl | rfl | rfl | ⟨a, rfl, e⟩ | ⟨a, rfl, e⟩ | ⟨a, rfl, e⟩
  · exact op_eq pins s σ H _ _ v u Q I rx ry ⟨rfl, by simpa using q⟩
  · exact op_eq pins s σ H _ _ v u Q I rx ry ⟨rfl, by simpa using q⟩
  · exact op_eq pins s σ H _ _ v u Q I rx ry ⟨rfl, by simpa using q⟩
  · exact op_eq pins s σ H _ _ v u Q I rx ry ⟨rfl, by simpa using q⟩
  · have d : Dp X.K H (.ref a) (.tuple [.str "a", .int 1]) := .tup (.of e) (.cons (.str _) (.cons (.int _) .nil))
    refine op_eqD hu pins s σ H _ _ v u Q I rx ry ⟨_, _, d, d, by decide +kernel, by decide +kernel, ?_⟩
    rw [SeqAt.eqv_refl _ (by decide +kernel)]
    exact q
  · have d : Dp X.K H (.ref a) (.list [.int 1]) := .lst (.of e) (.cons (.int _) .nil)
    refine op_eqD hu pins s σ H _ _ v u Q I rx ry ⟨_, _, d, d, by decide +kernel, by decide +kernel, ?_⟩
    rw [SeqAt.eqv_refl _ (by decide +kernel)]
    exact q
  · refine op_eqV hu pins s σ H _ _ v u Q I rx ry ⟨1, by decide, .inr ⟨a, a, _, _, rfl, rfl, e, e, rfl, fun p hp => ?_⟩, q⟩
    cases hp with
    | head => exact ⟨.int 1, by decide +kernel, .inl ⟨rfl, rfl⟩⟩
    | tail _ z => cases z
/-- an exception with these fields, its own dict beside it -/
def XAt (H : Hp) (a C : Addr) (fs : List (Str × V)) : Prop := ∃ dx, H a = some (exo a C (some dx)) ∧ H dx = some (exd dx fs)
theorem XAt.same {H H' : Hp} {a C : Addr} {fs : List (Str × V)} (z : XAt H a C fs) (s : Same H H') : XAt H' a C fs := by
  obtain ⟨dx, e, ed⟩ := z
  exact ⟨dx, s _ _ e, s _ _ ed⟩
theorem XAt.ex {H : Hp} {a C : Addr} {fs : List (Str × V)} (z : XAt H a C fs) : ExAt H a C fs := .inr z
/-- all but a is as it was -/
def Over (H : Hp) (a : Addr) (H' : Hp) : Prop := ∀ c o, c ≠ a → H c = some o → H' c = some o
theorem Over.same {H H' : Hp} {a : Addr} {o : HO} (s : Over (upd H a o) a H') (h : H a = none) : Same H H' := fun c u z => s c u (ne_of_none z h) (by rw [upd_ne (ne_of_none z h)]; exact z)
/-- what the __init__ of an exception promises, its new heap unnamed -/
def spXa (C : Addr) (f : Str) : Sp := fun vs H Q _ => ∃ (a : Addr) (y : V), vs = [.ref a, y] ∧ H a = some (exo a C none) ∧ ∀ H', Over H a H' → XAt H' a C [(f, y)] → Q .non H'
def spXb (C : Addr) (f g : Str) : Sp := fun vs H Q _ => ∃ (a : Addr) (y z : V), vs = [.ref a, y, z] ∧ H a = some (exo a C none) ∧ ∀ H', Over H a H' → XAt H' a C [(g, z), (f, y)] → Q .non H'
theorem spXa_imp {C : Addr} {f : Str} (vs : List V) (H : Hp) (Q : VK) (E : XK) (h : spXa C f vs H Q E) : spX1 C f vs H Q E := by
  obtain ⟨a, y, rfl, e, k⟩ := h
  refine ⟨a, y, rfl, e, fun dx hd hne => k _ (fun c o hc z => ?_) ⟨dx, upd_same, by rw [upd_ne hne, upd_same]⟩⟩
  rw [upd_ne hc, upd_ne (ne_of_none z hd)]
  exact z
theorem spXb_imp {C : Addr} {f g : Str} (vs : List V) (H : Hp) (Q : VK) (E : XK) (h : spXb C f g vs H Q E) : spX2 C f g vs H Q E := by
  obtain ⟨a, y, z, rfl, e, k⟩ := h
  refine ⟨a, y, z, rfl, e, fun dx hd hne => k _ (fun c o hc z => ?_) ⟨dx, upd_same, by rw [upd_ne hne, upd_same]⟩⟩
  rw [upd_ne hc, upd_ne (ne_of_none z hd)]
  exact z
/-- e.f, the class of e known -/
def tXF (C : Addr) (f : Str) (te : TE) : TE := fun σ H Q => te σ H fun x H1 => ∃ (a : Addr) (fs : List (Str × V)), x = .ref a ∧ XAt H1 a C fs ∧ ∃ v, fs.lookup f = some v ∧ Q v H1
theorem pe_xf2 {X : Cx} {C : Addr} {e : Expr} {te : TE} {f : Str} {pos : Pos} (T : ∃ B newId initId bm, XB X.K C B newId initId bm) (hno : PySem.W.findIn X.K (.ref C) f = some none) (he : PE X e te)
    (hb : attributeBase e f X.env (eval e X.env) = eval e X.env := by rfl) : PE X (.Attribute e f pos) (tXF C f te) := by
  refine ⟨fun pins s σ H Q I h => ?_⟩
  refine attr_of hb (thn (he.run pins s σ H _ I h) fun u s1 hh => ?_)
  obtain ⟨x, H1, I1, rx, a, fs, ex, ⟨dx, ea, ed⟩, v, l, q⟩ := hh
  obtain ⟨B, newId, initId, bm, T⟩ := T
  subst ex
  obtain rfl : u = Value.ref a := rx
  obtain ⟨t1, ho⟩ := exo_at I1.hok ea
  obtain ⟨mA, hns, hr⟩ := exd_at I1.hok ed
  obtain ⟨od, hod, hl⟩ := lookIn_ns hns
  obtain ⟨u, hu, ru⟩ := RelO.some_of (v := v) (o := mA f) (by rw [← l]; exact hr f)
  have J : PySem.W.InstAt s1.heap a { cls := .ref C, dict := some dx, data := .fields #[.ref t1, .none, .none, .none, .bool false, .none] } C (some od) := ⟨ho, rfl, rfl, hod⟩
  exact PySem.HandSPX.exc_get I1.kIn J T.ga T.gg T.exC (PySem.W.findObj_own T.hd hno rfl (by rw [hl, hu])) (handed_of ru) ⟨v, H1, I1.tok _, ru, q⟩
end L2
namespace L2
open PySem
theorem XAt.over {H H' : Hp} {a C F : Addr} {fs : List (Str × V)} {xs : List V} (z : XAt H a C fs) (e : H F = some (.lst xs)) (s : Over H F H') : XAt H' a C fs := by
  obtain ⟨dx, ea, ed⟩ := z
  refine ⟨dx, s _ _ (fun q => ?_) ea, s _ _ (fun q => ?_) ed⟩
  · rw [q, e] at ea
    cases ea
  · rw [q, e] at ed
    cases ed
theorem ExAt.over {H H' : Hp} {a C F : Addr} {fs : List (Str × V)} {xs : List V} (z : ExAt H a C fs) (e : H F = some (.lst xs)) (s : Over H F H') : ExAt H' a C fs := by
  rcases z with ⟨ea, q⟩ | z
  · refine .inl ⟨s _ _ (fun r => ?_) ea, q⟩
    rw [r, e] at ea
    cases ea
  · exact .inr (XAt.over z e s)
theorem over_upd {H : Hp} {F : Addr} {o : HO} : Over H F (upd H F o) := fun c u h z => by rw [upd_ne h]; exact z
end L2
set_option Elab.async false
set_option linter.all false
set_option maxRecDepth 100000
set_option maxHeartbeats 4000000
namespace K76
open PySem L2
def top (i : Nat) : Stmt := PySem.Challenge.pw_warnfilters_k76_exceptions_and_their_bas.main.body.getD i (.Pass ⟨0, 0, 0, 0⟩)
abbrev FnP (K : PySem.W.Frag) (x q : Str) (st : Stmt) (f : Addr) (fd : FuncData) : Prop := FunD K x q (defArgs st) (defBody st) (defScope st) [] [] f fd
/-- the built-in names that the defs call -/
structure Bt (mg : Str → Option Value) : Prop where
  len : mg "len" = none
  abs : mg "abs" = none
  int : mg "int" = none
  min : mg "min" = none
  range : mg "range" = none
  enumerate : mg "enumerate" = none
  isi : mg "isinstance" = none
  ValueError : mg "ValueError" = none
  LookupError : mg "LookupError" = none
  RuntimeError : mg "RuntimeError" = none
  OverflowError : mg "OverflowError" = none
  KeyError : mg "KeyError" = none
  IndexError : mg "IndexError" = none
  NotImplementedError : mg "NotImplementedError" = none
  ZeroDivisionError : mg "ZeroDivisionError" = none
section
variable {P : Program} {w : World} {K : PySem.W.Frag} {mg : Str → Option Value} {base : Heap}

abbrev sBag : Stmt := (top 17)
theorem scBag : FnScope ["_law_script", "_law_at", "_law_cell", "_law_great"] ["_law_script", "_law_at"] (defScope sBag) := ⟨rfl, rfl, rfl, by decide +kernel, rfl, by decide +kernel, by decide +kernel⟩


def spBag (K : PySem.W.Frag) : Sp := fun vs H Q _ => ∃ (a : Addr) (ns : List Int) (i : Int), vs = [.ref a, .int i] ∧ SqL K H a (ns.map V.int) ∧ 0 ≤ i ∧ i ≤ 100 ∧
  ∀ (p : Addr) (g x : Int), 0 ≤ g → 0 ≤ x → x < 2147483648 → H p = none → Q (.ref p) (upd H p (.lst [.int g, .int x, .int 0]))
theorem three_ok : 3 ≤ sizeLine := by decide
theorem ok_bag {f : Addr} {fd : FuncData} (F : FnP K "_law_bag" "_law_bag" sBag f fd) (T : Bt mg) : FnOk P w K mg base CX0 1 f fd ["_law_script", "_law_at"] (spBag K) := by
  refine F.ok scBag (fun vs H Q E h => ?_) (fun cdv A outer s H vs Q E hr h => ⟨_, PSs.nox ((pss_cons (ps_set (i := 2) scBag.nd rfl (Or.inl rfl) (pe_ifExp (pt_cmpR op_lt (pv 1) (pe_callB w_len (by rfl) T.len boot_len (pa_cons (pv 0) pa_nil)) (nomark _)) (pe_ix ix_list (pv 0) (pv 1) (fun _ _ => rfl)) pe_int))
    (pss_cons (ps_set (i := 3) scBag.nd rfl (Or.inl rfl) (pe_ifExp (pt_cmpR op_ge (pe_callB call_abs (by rfl) T.abs (by decide +kernel) (pa_cons (pv 2) pa_nil)) (pe_op op_pow pe_int pe_int) (nomark _)) (pe_callB call_abs (by rfl) T.abs (by decide +kernel) (pa_cons (pv 2) pa_nil)) pe_int))
    (pss_one (ps_ret (pe_lst (pa_cons (pv 3) (pa_cons (pe_op op_add (pe_op op_mod (pe_callTy w_int (by rfl) T.int (by decide +kernel) (pa_cons (pe_op op_add (pe_op op_add (pe_op op_mul (pe_op op_mod (pe_callTy w_int (by rfl) T.int (by decide +kernel) (pa_cons (pv 2) pa_nil)) pe_int) pe_int) (pe_op op_mul pe_int (pv 1))) pe_int) pa_nil)) pe_int) pe_int) (pa_cons pe_int pa_nil))))))))), ?_⟩)
  · obtain ⟨a, ns, i, rfl, _⟩ := h
    rfl
  · obtain ⟨a, ns, i, rfl, hS, h0, h1, k⟩ := h
    simp [tSeq, tAsg, gName, tIf, tTest, tB, tOp, tVar, tC, tCB, tCons, tNil, rI0, rI, tRet, tRetN, tLst, tTup, L2.start, tIfS, CMul, CPow, CDiv, cxOf, Cx.nox, tDrop, gSub, rSetL, tCall, tNext, tPar, tXNew, tXGet, tAndV, tOrV, tNotV, tXSet, tBM, tBM0, tyV_l, rAppend, rCat, upd_same, upd_none, sizeLine_eq, and_assoc, -Bool.exists_bool, three_ok, rIxL]
    refine ⟨_, hS, ?_⟩
    have fin : ∀ (g y : Int), 0 ≤ g → ∀ p, H p = none → Q (.ref p) (upd H p (.lst [.int g, .int (y % 2147483629 + 1), .int 0])) := fun g y h0 p hp => k p g _ h0 (by omega) (by omega) hp
    split
    · rename_i hlt
      rw [List.length_map] at hlt
      refine ⟨_, hS, ?_⟩
      have hi : i.toNat < ns.length := by omega
      refine ⟨V.int ns[i.toNat], ?_, _, rfl, ?_⟩
      · unfold atI ixN
        rw [if_pos h0, List.length_map, if_pos hlt, Option.bind_some, List.getElem?_map, List.getElem?_eq_getElem hi]
        rfl
      · refine ite2 (fun _ => ?_) (fun _ => ?_)
        · exact ⟨_, rfl, _, rfl, fin _ _ (by split <;> omega)⟩
        · exact ⟨_, rfl, fin _ _ (by omega)⟩
    · exact fin _ _ (by omega)

abbrev sTake : Stmt := (top 18)
theorem scTake : FnScope ["_law_bag_here", "_law_many", "_law_digit"] ["_law_bag_here", "_law_many"] (defScope sTake) := ⟨rfl, rfl, rfl, by decide +kernel, rfl, by decide +kernel, by decide +kernel⟩


def spTake : Sp := fun vs H Q _ => ∃ (b : Addr) (n : Nat) (m : Int), vs = [.ref b, .int m] ∧ BagAt H b n ∧ n ≤ 1000 ∧ 0 < m ∧ m ≤ 1000 ∧
  ∀ (d : Int) (l : List V), 0 ≤ d → d < m → BagAt (upd H b (.lst l)) b (n + 1) → Q (.int d) (upd H b (.lst l))
theorem ok_take {f : Addr} {fd : FuncData} (F : FnP K "_law_take" "_law_take" sTake f fd) (T : Bt mg) : FnOk P w K mg base CX0 1 f fd ["_law_bag_here", "_law_many"] spTake := by
  refine F.ok scTake (fun vs H Q E h => ?_) (fun cdv A outer s H vs Q E hr h => ⟨_, PSs.nox ((pss_cons (ps_if (pt_cmpR op_gt (pe_ix w_ix (pv 0) pe_int (fun _ _ => rfl)) pe_int (nomark _)) (pss_cons (ps_set (i := 2) scTake.nd rfl (Or.inl rfl) (pe_op op_mod (pe_callTy w_int (by rfl) T.int (by decide +kernel) (pa_cons (pe_ix w_ix (pv 0) pe_int (fun _ _ => rfl)) pa_nil)) (pv 1)))
    (pss_cons (ps_asg (pe_op op_fdiv (pe_ix w_ix (pv 0) pe_int (fun _ _ => rfl)) (pv 1)) (pg_sub (pv 0) pe_int set_list))
    (pss_one (ps_ret (pv 2))))) pss_nil)
    (pss_cons (ps_asg (pe_op op_add (pe_ix w_ix (pv 0) pe_int (fun _ _ => rfl)) pe_int) (pg_sub (pv 0) pe_int set_list))
    (pss_cons (ps_asg (pe_op op_mod (pe_callTy w_int (by rfl) T.int (by decide +kernel) (pa_cons (pe_op op_add (pe_op op_add (pe_op op_mul (pe_ix w_ix (pv 0) pe_int (fun _ _ => rfl)) pe_int) (pe_op op_mul pe_int (pe_ix w_ix (pv 0) pe_int (fun _ _ => rfl)))) pe_int) pa_nil)) pe_int) (pg_sub (pv 0) pe_int set_list))
    (pss_one (ps_ret (pe_op op_mod (pe_op op_mod (pe_callTy w_int (by rfl) T.int (by decide +kernel) (pa_cons (pe_op op_pow (pe_op op_fdiv (pe_ix w_ix (pv 0) pe_int (fun _ _ => rfl)) pe_int) pe_int) pa_nil)) pe_int) (pv 1)))))))), ?_⟩)
  · obtain ⟨b, n, m, rfl, _⟩ := h
    rfl
  · obtain ⟨b, n, m, rfl, ⟨g, x, c, hb, g0, x0, x1, c0, c1⟩, hn, m0, m1, k⟩ := h
    simp [tSeq, tAsg, gName, tIf, tTest, tB, tOp, tVar, tC, tCB, tCons, tNil, rI0, rI, tRet, tRetN, tLst, tTup, L2.start, tIfS, CMul, CPow, CDiv, cxOf, Cx.nox, tDrop, gSub, rSetL, tCall, tNext, tPar, tXNew, tXGet, tAndV, tOrV, tNotV, tXSet, tBM, tBM0, tyV_l, rAppend, rCat, upd_same, upd_none, sizeLine_eq, and_assoc, -Bool.exists_bool, hb, atI, ixN, upd_same, upd_upd, m0]
    split
    · rename_i hg
      exact ⟨by omega, k _ _ (Int.emod_nonneg _ (by omega)) (Int.emod_lt_of_pos _ m0) ⟨_, _, _, upd_same, Int.ediv_nonneg (by omega) (by omega), x0, x1, c0, by omega⟩⟩
    · refine ⟨by omega, k _ _ (Int.emod_nonneg _ (by omega)) (Int.emod_lt_of_pos _ m0) ⟨_, _, _, upd_same, g0, by omega, by omega, by omega, by omega⟩⟩

abbrev sIBadWarning : Stmt := (inClass (top 2) 0)
theorem scIBadWarning : FnScope ["self", "field"] ["self", "field"] (defScope sIBadWarning) := ⟨rfl, rfl, rfl, by decide +kernel, rfl, by decide +kernel, by decide +kernel⟩


theorem ok_BadWarning {f C : Addr} {fd : FuncData} {B newId initId : String} {bm : List Value} (F : FnP K "__init__" "BadWarning.__init__" sIBadWarning f fd) (T : XB K C B newId initId bm) (h0 : PySem.W.findIn K (.ref C) "field" = some none) : FnOk P w K mg base CX0 1 f fd ["self", "field"] (spX1 C "field") := by
  refine F.ok scIBadWarning (fun vs H Q E h => ?_) (fun cdv A outer s H vs Q E hr h => ⟨_, PSs.nox ((pss_one (ps_xset T h0 (pv 0) (pv 1)))), ?_⟩)
  · obtain ⟨a, y, rfl, _⟩ := h
    rfl
  · obtain ⟨a, y, rfl, ha, k⟩ := h
    simp [tSeq, tAsg, gName, tIf, tTest, tB, tOp, tVar, tC, tCB, tCons, tNil, rI0, rI, tRet, tRetN, tLst, tTup, L2.start, tIfS, CMul, CPow, CDiv, cxOf, Cx.nox, tDrop, gSub, rSetL, tCall, tNext, tPar, tXNew, tXGet, tAndV, tOrV, tNotV, tXSet, tBM, tBM0, tyV_l, rAppend, rCat, upd_same, upd_none, sizeLine_eq, and_assoc, -Bool.exists_bool, ha]
    exact .inl fun dx h1 h2 => k dx h1 h2

abbrev sIBadFilter : Stmt := (inClass (top 1) 0)
theorem scIBadFilter : FnScope ["self", "field"] ["self", "field"] (defScope sIBadFilter) := ⟨rfl, rfl, rfl, by decide +kernel, rfl, by decide +kernel, by decide +kernel⟩


theorem ok_BadFilter {f C : Addr} {fd : FuncData} {B newId initId : String} {bm : List Value} (F : FnP K "__init__" "BadFilter.__init__" sIBadFilter f fd) (T : XB K C B newId initId bm) (h0 : PySem.W.findIn K (.ref C) "field" = some none) : FnOk P w K mg base CX0 1 f fd ["self", "field"] (spX1 C "field") := by
  refine F.ok scIBadFilter (fun vs H Q E h => ?_) (fun cdv A outer s H vs Q E hr h => ⟨_, PSs.nox ((pss_one (ps_xset T h0 (pv 0) (pv 1)))), ?_⟩)
  · obtain ⟨a, y, rfl, _⟩ := h
    rfl
  · obtain ⟨a, y, rfl, ha, k⟩ := h
    simp [tSeq, tAsg, gName, tIf, tTest, tB, tOp, tVar, tC, tCB, tCons, tNil, rI0, rI, tRet, tRetN, tLst, tTup, L2.start, tIfS, CMul, CPow, CDiv, cxOf, Cx.nox, tDrop, gSub, rSetL, tCall, tNext, tPar, tXNew, tXGet, tAndV, tOrV, tNotV, tXSet, tBM, tBM0, tyV_l, rAppend, rCat, upd_same, upd_none, sizeLine_eq, and_assoc, -Bool.exists_bool, ha]
    exact .inl fun dx h1 h2 => k dx h1 h2

abbrev sIBadTable : Stmt := (inClass (top 4) 0)
theorem scIBadTable : FnScope ["self", "index"] ["self", "index"] (defScope sIBadTable) := ⟨rfl, rfl, rfl, by decide +kernel, rfl, by decide +kernel, by decide +kernel⟩


theorem ok_BadTable {f C : Addr} {fd : FuncData} {B newId initId : String} {bm : List Value} (F : FnP K "__init__" "BadTable.__init__" sIBadTable f fd) (T : XB K C B newId initId bm) (h0 : PySem.W.findIn K (.ref C) "index" = some none) : FnOk P w K mg base CX0 1 f fd ["self", "index"] (spX1 C "index") := by
  refine F.ok scIBadTable (fun vs H Q E h => ?_) (fun cdv A outer s H vs Q E hr h => ⟨_, PSs.nox ((pss_one (ps_xset T h0 (pv 0) (pv 1)))), ?_⟩)
  · obtain ⟨a, y, rfl, _⟩ := h
    rfl
  · obtain ⟨a, y, rfl, ha, k⟩ := h
    simp [tSeq, tAsg, gName, tIf, tTest, tB, tOp, tVar, tC, tCB, tCons, tNil, rI0, rI, tRet, tRetN, tLst, tTup, L2.start, tIfS, CMul, CPow, CDiv, cxOf, Cx.nox, tDrop, gSub, rSetL, tCall, tNext, tPar, tXNew, tXGet, tAndV, tOrV, tNotV, tXSet, tBM, tBM0, tyV_l, rAppend, rCat, upd_same, upd_none, sizeLine_eq, and_assoc, -Bool.exists_bool, ha]
    exact .inl fun dx h1 h2 => k dx h1 h2

abbrev sIBadOption : Stmt := (inClass (top 3) 0)
theorem scIBadOption : FnScope ["self", "reason", "at"] ["self", "reason", "at"] (defScope sIBadOption) := ⟨rfl, rfl, rfl, by decide +kernel, rfl, by decide +kernel, by decide +kernel⟩


theorem ok_BadOption {f C : Addr} {fd : FuncData} {B newId initId : String} {bm : List Value} (F : FnP K "__init__" "BadOption.__init__" sIBadOption f fd) (T : XB K C B newId initId bm) (h0 : PySem.W.findIn K (.ref C) "reason" = some none) (h1 : PySem.W.findIn K (.ref C) "at" = some none) : FnOk P w K mg base CX0 1 f fd ["self", "reason", "at"] (spX2 C "reason" "at") := by
  refine F.ok scIBadOption (fun vs H Q E h => ?_) (fun cdv A outer s H vs Q E hr h => ⟨_, PSs.nox ((pss_cons (ps_xset T h0 (pv 0) (pv 1))
    (pss_one (ps_xset T h1 (pv 0) (pv 2))))), ?_⟩)
  · obtain ⟨a, y, z, rfl, _⟩ := h
    rfl
  · obtain ⟨a, y, z, rfl, ha, k⟩ := h
    simp [tSeq, tAsg, gName, tIf, tTest, tB, tOp, tVar, tC, tCB, tCons, tNil, rI0, rI, tRet, tRetN, tLst, tTup, L2.start, tIfS, CMul, CPow, CDiv, cxOf, Cx.nox, tDrop, gSub, rSetL, tCall, tNext, tPar, tXNew, tXGet, tAndV, tOrV, tNotV, tXSet, tBM, tBM0, tyV_l, rAppend, rCat, upd_same, upd_none, sizeLine_eq, and_assoc, -Bool.exists_bool, ha]
    refine .inl fun dx h1 h2 => .inr ⟨dx, rfl, [(("reason" : Str), y)], by rw [upd_ne h2, upd_same], by show 1 ≤ 900; decide, ?_⟩
    have e : upd (upd (upd H dx (exd dx [(("reason" : Str), y)])) a (exo a C (some dx))) dx (exd dx [(("at" : Str), z), (("reason" : Str), y)]) = upd (upd H dx (exd dx [(("at" : Str), z), (("reason" : Str), y)])) a (exo a C (some dx)) := by
      rw [upd_comm (Ne.symm h2), upd_upd]
    rw [e]
    exact k dx h1 h2

abbrev sINoCategory : Stmt := (inClass (top 10) 0)
theorem scINoCategory : FnScope ["self", "name"] ["self", "name"] (defScope sINoCategory) := ⟨rfl, rfl, rfl, by decide +kernel, rfl, by decide +kernel, by decide +kernel⟩


theorem ok_NoCategory {f C : Addr} {fd : FuncData} {B newId initId : String} {bm : List Value} (F : FnP K "__init__" "NoCategory.__init__" sINoCategory f fd) (T : XB K C B newId initId bm) (h0 : PySem.W.findIn K (.ref C) "name" = some none) : FnOk P w K mg base CX0 1 f fd ["self", "name"] (spX1 C "name") := by
  refine F.ok scINoCategory (fun vs H Q E h => ?_) (fun cdv A outer s H vs Q E hr h => ⟨_, PSs.nox ((pss_one (ps_xset T h0 (pv 0) (pv 1)))), ?_⟩)
  · obtain ⟨a, y, rfl, _⟩ := h
    rfl
  · obtain ⟨a, y, rfl, ha, k⟩ := h
    simp [tSeq, tAsg, gName, tIf, tTest, tB, tOp, tVar, tC, tCB, tCons, tNil, rI0, rI, tRet, tRetN, tLst, tTup, L2.start, tIfS, CMul, CPow, CDiv, cxOf, Cx.nox, tDrop, gSub, rSetL, tCall, tNext, tPar, tXNew, tXGet, tAndV, tOrV, tNotV, tXSet, tBM, tBM0, tyV_l, rAppend, rCat, upd_same, upd_none, sizeLine_eq, and_assoc, -Bool.exists_bool, ha]
    exact .inl fun dx h1 h2 => k dx h1 h2

abbrev sINoFilter : Stmt := (inClass (top 11) 0)
theorem scINoFilter : FnScope ["self", "index"] ["self", "index"] (defScope sINoFilter) := ⟨rfl, rfl, rfl, by decide +kernel, rfl, by decide +kernel, by decide +kernel⟩


theorem ok_NoFilter {f C : Addr} {fd : FuncData} {B newId initId : String} {bm : List Value} (F : FnP K "__init__" "NoFilter.__init__" sINoFilter f fd) (T : XB K C B newId initId bm) (h0 : PySem.W.findIn K (.ref C) "index" = some none) : FnOk P w K mg base CX0 1 f fd ["self", "index"] (spX1 C "index") := by
  refine F.ok scINoFilter (fun vs H Q E h => ?_) (fun cdv A outer s H vs Q E hr h => ⟨_, PSs.nox ((pss_one (ps_xset T h0 (pv 0) (pv 1)))), ?_⟩)
  · obtain ⟨a, y, rfl, _⟩ := h
    rfl
  · obtain ⟨a, y, rfl, ha, k⟩ := h
    simp [tSeq, tAsg, gName, tIf, tTest, tB, tOp, tVar, tC, tCB, tCons, tNil, rI0, rI, tRet, tRetN, tLst, tTup, L2.start, tIfS, CMul, CPow, CDiv, cxOf, Cx.nox, tDrop, gSub, rSetL, tCall, tNext, tPar, tXNew, tXGet, tAndV, tOrV, tNotV, tXSet, tBM, tBM0, tyV_l, rAppend, rCat, upd_same, upd_none, sizeLine_eq, and_assoc, -Bool.exists_bool, ha]
    exact .inl fun dx h1 h2 => k dx h1 h2

abbrev sIRaised : Stmt := (inClass (top 12) 0)
theorem scIRaised : FnScope ["self", "warning"] ["self", "warning"] (defScope sIRaised) := ⟨rfl, rfl, rfl, by decide +kernel, rfl, by decide +kernel, by decide +kernel⟩


theorem ok_Raised {f C : Addr} {fd : FuncData} {B newId initId : String} {bm : List Value} (F : FnP K "__init__" "Raised.__init__" sIRaised f fd) (T : XB K C B newId initId bm) (h0 : PySem.W.findIn K (.ref C) "warning" = some none) : FnOk P w K mg base CX0 1 f fd ["self", "warning"] (spX1 C "warning") := by
  refine F.ok scIRaised (fun vs H Q E h => ?_) (fun cdv A outer s H vs Q E hr h => ⟨_, PSs.nox ((pss_one (ps_xset T h0 (pv 0) (pv 1)))), ?_⟩)
  · obtain ⟨a, y, rfl, _⟩ := h
    rfl
  · obtain ⟨a, y, rfl, ha, k⟩ := h
    simp [tSeq, tAsg, gName, tIf, tTest, tB, tOp, tVar, tC, tCB, tCons, tNil, rI0, rI, tRet, tRetN, tLst, tTup, L2.start, tIfS, CMul, CPow, CDiv, cxOf, Cx.nox, tDrop, gSub, rSetL, tCall, tNext, tPar, tXNew, tXGet, tAndV, tOrV, tNotV, tXSet, tBM, tBM0, tyV_l, rAppend, rCat, upd_same, upd_none, sizeLine_eq, and_assoc, -Bool.exists_bool, ha]
    exact .inl fun dx h1 h2 => k dx h1 h2

abbrev sITooMany : Stmt := (inClass (top 14) 0)
theorem scITooMany : FnScope ["self", "count"] ["self", "count"] (defScope sITooMany) := ⟨rfl, rfl, rfl, by decide +kernel, rfl, by decide +kernel, by decide +kernel⟩


theorem ok_TooMany {f C : Addr} {fd : FuncData} {B newId initId : String} {bm : List Value} (F : FnP K "__init__" "TooMany.__init__" sITooMany f fd) (T : XB K C B newId initId bm) (h0 : PySem.W.findIn K (.ref C) "count" = some none) : FnOk P w K mg base CX0 1 f fd ["self", "count"] (spX1 C "count") := by
  refine F.ok scITooMany (fun vs H Q E h => ?_) (fun cdv A outer s H vs Q E hr h => ⟨_, PSs.nox ((pss_one (ps_xset T h0 (pv 0) (pv 1)))), ?_⟩)
  · obtain ⟨a, y, rfl, _⟩ := h
    rfl
  · obtain ⟨a, y, rfl, ha, k⟩ := h
    simp [tSeq, tAsg, gName, tIf, tTest, tB, tOp, tVar, tC, tCB, tCons, tNil, rI0, rI, tRet, tRetN, tLst, tTup, L2.start, tIfS, CMul, CPow, CDiv, cxOf, Cx.nox, tDrop, gSub, rSetL, tCall, tNext, tPar, tXNew, tXGet, tAndV, tOrV, tNotV, tXSet, tBM, tBM0, tyV_l, rAppend, rCat, upd_same, upd_none, sizeLine_eq, and_assoc, -Bool.exists_bool, ha]
    exact .inl fun dx h1 h2 => k dx h1 h2

abbrev sIBadPattern : Stmt := (inClass (top 9) 0)
theorem scIBadPattern : FnScope ["self", "index"] ["self", "index"] (defScope sIBadPattern) := ⟨rfl, rfl, rfl, by decide +kernel, rfl, by decide +kernel, by decide +kernel⟩


theorem ok_BadPattern {f C : Addr} {fd : FuncData} {B newId initId : String} {bm : List Value} (F : FnP K "__init__" "BadPattern.__init__" sIBadPattern f fd) (T : XB K C B newId initId bm) (h0 : PySem.W.findIn K (.ref C) "index" = some none) : FnOk P w K mg base CX0 1 f fd ["self", "index"] (spX1 C "index") := by
  refine F.ok scIBadPattern (fun vs H Q E h => ?_) (fun cdv A outer s H vs Q E hr h => ⟨_, PSs.nox ((pss_one (ps_xset T h0 (pv 0) (pv 1)))), ?_⟩)
  · obtain ⟨a, y, rfl, _⟩ := h
    rfl
  · obtain ⟨a, y, rfl, ha, k⟩ := h
    simp [tSeq, tAsg, gName, tIf, tTest, tB, tOp, tVar, tC, tCB, tCons, tNil, rI0, rI, tRet, tRetN, tLst, tTup, L2.start, tIfS, CMul, CPow, CDiv, cxOf, Cx.nox, tDrop, gSub, rSetL, tCall, tNext, tPar, tXNew, tXGet, tAndV, tOrV, tNotV, tXSet, tBM, tBM0, tyV_l, rAppend, rCat, upd_same, upd_none, sizeLine_eq, and_assoc, -Bool.exists_bool, ha]
    exact .inl fun dx h1 h2 => k dx h1 h2

abbrev sIBadScript : Stmt := (inClass (top 5) 0)
theorem scIBadScript : FnScope ["self", "task", "step"] ["self", "task", "step"] (defScope sIBadScript) := ⟨rfl, rfl, rfl, by decide +kernel, rfl, by decide +kernel, by decide +kernel⟩


theorem ok_BadScript {f C : Addr} {fd : FuncData} {B newId initId : String} {bm : List Value} (F : FnP K "__init__" "BadScript.__init__" sIBadScript f fd) (T : XB K C B newId initId bm) (h0 : PySem.W.findIn K (.ref C) "task" = some none) (h1 : PySem.W.findIn K (.ref C) "step" = some none) : FnOk P w K mg base CX0 1 f fd ["self", "task", "step"] (spX2 C "task" "step") := by
  refine F.ok scIBadScript (fun vs H Q E h => ?_) (fun cdv A outer s H vs Q E hr h => ⟨_, PSs.nox ((pss_cons (ps_xset T h0 (pv 0) (pv 1))
    (pss_one (ps_xset T h1 (pv 0) (pv 2))))), ?_⟩)
  · obtain ⟨a, y, z, rfl, _⟩ := h
    rfl
  · obtain ⟨a, y, z, rfl, ha, k⟩ := h
    simp [tSeq, tAsg, gName, tIf, tTest, tB, tOp, tVar, tC, tCB, tCons, tNil, rI0, rI, tRet, tRetN, tLst, tTup, L2.start, tIfS, CMul, CPow, CDiv, cxOf, Cx.nox, tDrop, gSub, rSetL, tCall, tNext, tPar, tXNew, tXGet, tAndV, tOrV, tNotV, tXSet, tBM, tBM0, tyV_l, rAppend, rCat, upd_same, upd_none, sizeLine_eq, and_assoc, -Bool.exists_bool, ha]
    refine .inl fun dx h1 h2 => .inr ⟨dx, rfl, [(("task" : Str), y)], by rw [upd_ne h2, upd_same], by show 1 ≤ 900; decide, ?_⟩
    have e : upd (upd (upd H dx (exd dx [(("task" : Str), y)])) a (exo a C (some dx))) dx (exd dx [(("step" : Str), z), (("task" : Str), y)]) = upd (upd H dx (exd dx [(("step" : Str), z), (("task" : Str), y)])) a (exo a C (some dx)) := by
      rw [upd_comm (Ne.symm h2), upd_upd]
    rw [e]
    exact k dx h1 h2

abbrev sINoStep : Stmt := (inClass (top 8) 0)
theorem scINoStep : FnScope ["self", "task", "step"] ["self", "task", "step"] (defScope sINoStep) := ⟨rfl, rfl, rfl, by decide +kernel, rfl, by decide +kernel, by decide +kernel⟩


theorem ok_NoStep {f C : Addr} {fd : FuncData} {B newId initId : String} {bm : List Value} (F : FnP K "__init__" "NoStep.__init__" sINoStep f fd) (T : XB K C B newId initId bm) (h0 : PySem.W.findIn K (.ref C) "task" = some none) (h1 : PySem.W.findIn K (.ref C) "step" = some none) : FnOk P w K mg base CX0 1 f fd ["self", "task", "step"] (spX2 C "task" "step") := by
  refine F.ok scINoStep (fun vs H Q E h => ?_) (fun cdv A outer s H vs Q E hr h => ⟨_, PSs.nox ((pss_cons (ps_xset T h0 (pv 0) (pv 1))
    (pss_one (ps_xset T h1 (pv 0) (pv 2))))), ?_⟩)
  · obtain ⟨a, y, z, rfl, _⟩ := h
    rfl
  · obtain ⟨a, y, z, rfl, ha, k⟩ := h
    simp [tSeq, tAsg, gName, tIf, tTest, tB, tOp, tVar, tC, tCB, tCons, tNil, rI0, rI, tRet, tRetN, tLst, tTup, L2.start, tIfS, CMul, CPow, CDiv, cxOf, Cx.nox, tDrop, gSub, rSetL, tCall, tNext, tPar, tXNew, tXGet, tAndV, tOrV, tNotV, tXSet, tBM, tBM0, tyV_l, rAppend, rCat, upd_same, upd_none, sizeLine_eq, and_assoc, -Bool.exists_bool, ha]
    refine .inl fun dx h1 h2 => .inr ⟨dx, rfl, [(("task" : Str), y)], by rw [upd_ne h2, upd_same], by show 1 ≤ 900; decide, ?_⟩
    have e : upd (upd (upd H dx (exd dx [(("task" : Str), y)])) a (exo a C (some dx))) dx (exd dx [(("step" : Str), z), (("task" : Str), y)]) = upd (upd H dx (exd dx [(("step" : Str), z), (("task" : Str), y)])) a (exo a C (some dx)) := by
      rw [upd_comm (Ne.symm h2), upd_upd]
    rw [e]
    exact k dx h1 h2

abbrev sITooWide : Stmt := (inClass (top 15) 0)
theorem scITooWide : FnScope ["self", "what"] ["self", "what"] (defScope sITooWide) := ⟨rfl, rfl, rfl, by decide +kernel, rfl, by decide +kernel, by decide +kernel⟩


theorem ok_TooWide {f C : Addr} {fd : FuncData} {B newId initId : String} {bm : List Value} (F : FnP K "__init__" "TooWide.__init__" sITooWide f fd) (T : XB K C B newId initId bm) (h0 : PySem.W.findIn K (.ref C) "what" = some none) : FnOk P w K mg base CX0 1 f fd ["self", "what"] (spX1 C "what") := by
  refine F.ok scITooWide (fun vs H Q E h => ?_) (fun cdv A outer s H vs Q E hr h => ⟨_, PSs.nox ((pss_one (ps_xset T h0 (pv 0) (pv 1)))), ?_⟩)
  · obtain ⟨a, y, rfl, _⟩ := h
    rfl
  · obtain ⟨a, y, rfl, ha, k⟩ := h
    simp [tSeq, tAsg, gName, tIf, tTest, tB, tOp, tVar, tC, tCB, tCons, tNil, rI0, rI, tRet, tRetN, tLst, tTup, L2.start, tIfS, CMul, CPow, CDiv, cxOf, Cx.nox, tDrop, gSub, rSetL, tCall, tNext, tPar, tXNew, tXGet, tAndV, tOrV, tNotV, tXSet, tBM, tBM0, tyV_l, rAppend, rCat, upd_same, upd_none, sizeLine_eq, and_assoc, -Bool.exists_bool, ha]
    exact .inl fun dx h1 h2 => k dx h1 h2


/-- the classes in the law's order, and the place of each one's base -/
def nm : List Str := ["BadWarning", "BadFilter", "BadTable", "BadOption", "NoCategory", "NoFilter", "Raised", "NoBlock", "TooMany", "BadPattern", "BadScript", "BadOrder", "BadOutcome", "NoStep", "TooWide"]
def bs : List Int := [0, 0, 0, 0, 1, 1, 2, 2, 3, 0, 0, 0, 0, 1, 3]
def cA (K : PySem.W.Frag) (i : Nat) : Addr := He.ga K (nm.getD i "")
def flags (i : Nat) : List V := [.bl (decide (bs.getD i 0 = 0)), .bl (decide (bs.getD i 0 = 1)), .bl (decide (bs.getD i 0 = 2)), .bl (decide (bs.getD i 0 = 3))]
def marks (i : Nat) : List V := (List.range 15).map fun (j : Nat) => .bl (decide (i = j))
/-- what the head must show of the classes -/
structure Ck (K : PySem.W.Frag) : Prop where
  ob : ObCls K
  xb : ∀ i, i < 15 → ∃ B newId initId bm, XB K (cA K i) B newId initId bm
  base : ∀ i, i < 15 → (isV K (cA K i) (.ty "ValueError") = some (decide (bs.getD i 0 = 0)) ∧ isV K (cA K i) (.ty "LookupError") = some (decide (bs.getD i 0 = 1)) ∧ isV K (cA K i) (.ty "RuntimeError") = some (decide (bs.getD i 0 = 2)) ∧ isV K (cA K i) (.ty "OverflowError") = some (decide (bs.getD i 0 = 3)))
  narrow : ∀ i, i < 15 → isVs K (cA K i) [.ty "KeyError", .ty "IndexError", .ty "NotImplementedError", .ty "ZeroDivisionError"] = some false
  own : ∀ i, i < 15 → ∀ j, j < 15 → isV K (cA K i) (.ref (cA K j)) = some (decide (i = j))

abbrev sKinds : Stmt := (top 20)
theorem scKinds : FnScope ["_law_e", "_law_bases", "_law_narrow", "_law_own"] ["_law_e"] (defScope sKinds) := ⟨rfl, rfl, rfl, by decide +kernel, rfl, by decide +kernel, by decide +kernel⟩


def spKinds (K : PySem.W.Frag) : Sp := fun vs H Q _ => ∃ (e : Addr) (i : Nat) (fs : List (Str × V)), vs = [.ref e] ∧ i < 15 ∧ ExAt H e (cA K i) fs ∧
  ∀ (H' : Hp) (l1 l2 T : Addr), Same H H' → H' l1 = some (.lst (flags i)) → H' l2 = some (.lst (marks i)) → H' T = some (.tup [.ref l1, .bl false, .ref l2]) → Q (.ref T) H'
theorem ok_kinds {f : Addr} {fd : FuncData} (F : FnP K "_law_kinds" "_law_kinds" sKinds f fd) (T : Bt mg) (W : Ck K) (M : ∀ i, i < 15 → mg (nm.getD i "") = some (.ref (cA K i))) : FnOk P w K mg base CX0 1 f fd ["_law_e"] (spKinds K) := by
  refine F.ok scKinds (fun vs H Q E h => ?_) (fun cdv A outer s H vs Q E hr h => ?_)
  · obtain ⟨e, i, fs, rfl, _⟩ := h
    rfl
  · obtain ⟨e, i, fs, rfl, hi, he, k⟩ := h
    refine ⟨_, PSs.nox ((pss_mid (ps_set (i := 1) scKinds.nd rfl (Or.inl rfl) (pe_lst (pa_cons (pe_callB (w_isx (C := cA K i) (fs := fs) W.ob (W.xb i hi)) (by rfl) T.isi (by decide +kernel) (pa_cons (pv 0) (pa_cons (pe_bltn (v := .ty "ValueError") (by rfl) T.ValueError (by decide +kernel) rfl) pa_nil))) (pa_cons (pe_callB (w_isx (C := cA K i) (fs := fs) W.ob (W.xb i hi)) (by rfl) T.isi (by decide +kernel) (pa_cons (pv 0) (pa_cons (pe_bltn (v := .ty "LookupError") (by rfl) T.LookupError (by decide +kernel) rfl) pa_nil))) (pa_cons (pe_callB (w_isx (C := cA K i) (fs := fs) W.ob (W.xb i hi)) (by rfl) T.isi (by decide +kernel) (pa_cons (pv 0) (pa_cons (pe_bltn (v := .ty "RuntimeError") (by rfl) T.RuntimeError (by decide +kernel) rfl) pa_nil))) pa_nil)))))
    (pss_mid (ps_expr (pe_bm PySem.F.plainAttrs_list PySem.F.slot_list_append PySem.F.type_list_append mt_append (pv 1) (pa_cons (pe_callB (w_isx (C := cA K i) (fs := fs) W.ob (W.xb i hi)) (by rfl) T.isi (by decide +kernel) (pa_cons (pv 0) (pa_cons (pe_bltn (v := .ty "OverflowError") (by rfl) T.OverflowError (by decide +kernel) rfl) pa_nil))) pa_nil)))
    (pss_mid (ps_set (i := 2) scKinds.nd rfl (Or.inl rfl) (pe_callB (w_isxt (C := cA K i) (fs := fs) W.ob (W.xb i hi)) (by rfl) T.isi (by decide +kernel) (pa_cons (pv 0) (pa_cons (pe_tup (pa_cons (pe_bltn (v := .ty "KeyError") (by rfl) T.KeyError (by decide +kernel) rfl) (pa_cons (pe_bltn (v := .ty "IndexError") (by rfl) T.IndexError (by decide +kernel) rfl) (pa_cons (pe_bltn (v := .ty "NotImplementedError") (by rfl) T.NotImplementedError (by decide +kernel) rfl) (pa_cons (pe_bltn (v := .ty "ZeroDivisionError") (by rfl) T.ZeroDivisionError (by decide +kernel) rfl) pa_nil))))) pa_nil))))
    (pss_mid (ps_set (i := 3) scKinds.nd rfl (Or.inl rfl) (pe_lst (pa_cons (pe_callB (w_isx (C := cA K i) (fs := fs) W.ob (W.xb i hi)) (by rfl) T.isi (by decide +kernel) (pa_cons (pv 0) (pa_cons (pe_glob (v := .ref (cA K 0)) (by rfl) (M 0 (by decide)) rfl) pa_nil))) (pa_cons (pe_callB (w_isx (C := cA K i) (fs := fs) W.ob (W.xb i hi)) (by rfl) T.isi (by decide +kernel) (pa_cons (pv 0) (pa_cons (pe_glob (v := .ref (cA K 1)) (by rfl) (M 1 (by decide)) rfl) pa_nil))) (pa_cons (pe_callB (w_isx (C := cA K i) (fs := fs) W.ob (W.xb i hi)) (by rfl) T.isi (by decide +kernel) (pa_cons (pv 0) (pa_cons (pe_glob (v := .ref (cA K 2)) (by rfl) (M 2 (by decide)) rfl) pa_nil))) (pa_cons (pe_callB (w_isx (C := cA K i) (fs := fs) W.ob (W.xb i hi)) (by rfl) T.isi (by decide +kernel) (pa_cons (pv 0) (pa_cons (pe_glob (v := .ref (cA K 3)) (by rfl) (M 3 (by decide)) rfl) pa_nil))) pa_nil))))))
    (pss_mid (ps_set (i := 3) scKinds.nd rfl (Or.inl rfl) (pe_op op_cat (pv 3) (pe_lst (pa_cons (pe_callB (w_isx (C := cA K i) (fs := fs) W.ob (W.xb i hi)) (by rfl) T.isi (by decide +kernel) (pa_cons (pv 0) (pa_cons (pe_glob (v := .ref (cA K 4)) (by rfl) (M 4 (by decide)) rfl) pa_nil))) (pa_cons (pe_callB (w_isx (C := cA K i) (fs := fs) W.ob (W.xb i hi)) (by rfl) T.isi (by decide +kernel) (pa_cons (pv 0) (pa_cons (pe_glob (v := .ref (cA K 5)) (by rfl) (M 5 (by decide)) rfl) pa_nil))) (pa_cons (pe_callB (w_isx (C := cA K i) (fs := fs) W.ob (W.xb i hi)) (by rfl) T.isi (by decide +kernel) (pa_cons (pv 0) (pa_cons (pe_glob (v := .ref (cA K 6)) (by rfl) (M 6 (by decide)) rfl) pa_nil))) (pa_cons (pe_callB (w_isx (C := cA K i) (fs := fs) W.ob (W.xb i hi)) (by rfl) T.isi (by decide +kernel) (pa_cons (pv 0) (pa_cons (pe_glob (v := .ref (cA K 7)) (by rfl) (M 7 (by decide)) rfl) pa_nil))) pa_nil)))))))
    (pss_mid (ps_set (i := 3) scKinds.nd rfl (Or.inl rfl) (pe_op op_cat (pv 3) (pe_lst (pa_cons (pe_callB (w_isx (C := cA K i) (fs := fs) W.ob (W.xb i hi)) (by rfl) T.isi (by decide +kernel) (pa_cons (pv 0) (pa_cons (pe_glob (v := .ref (cA K 8)) (by rfl) (M 8 (by decide)) rfl) pa_nil))) (pa_cons (pe_callB (w_isx (C := cA K i) (fs := fs) W.ob (W.xb i hi)) (by rfl) T.isi (by decide +kernel) (pa_cons (pv 0) (pa_cons (pe_glob (v := .ref (cA K 9)) (by rfl) (M 9 (by decide)) rfl) pa_nil))) (pa_cons (pe_callB (w_isx (C := cA K i) (fs := fs) W.ob (W.xb i hi)) (by rfl) T.isi (by decide +kernel) (pa_cons (pv 0) (pa_cons (pe_glob (v := .ref (cA K 10)) (by rfl) (M 10 (by decide)) rfl) pa_nil))) pa_nil))))))
    (pss_mid (ps_set (i := 3) scKinds.nd rfl (Or.inl rfl) (pe_op op_cat (pv 3) (pe_lst (pa_cons (pe_callB (w_isx (C := cA K i) (fs := fs) W.ob (W.xb i hi)) (by rfl) T.isi (by decide +kernel) (pa_cons (pv 0) (pa_cons (pe_glob (v := .ref (cA K 11)) (by rfl) (M 11 (by decide)) rfl) pa_nil))) (pa_cons (pe_callB (w_isx (C := cA K i) (fs := fs) W.ob (W.xb i hi)) (by rfl) T.isi (by decide +kernel) (pa_cons (pv 0) (pa_cons (pe_glob (v := .ref (cA K 12)) (by rfl) (M 12 (by decide)) rfl) pa_nil))) (pa_cons (pe_callB (w_isx (C := cA K i) (fs := fs) W.ob (W.xb i hi)) (by rfl) T.isi (by decide +kernel) (pa_cons (pv 0) (pa_cons (pe_glob (v := .ref (cA K 13)) (by rfl) (M 13 (by decide)) rfl) pa_nil))) pa_nil))))))
    (pss_one (ps_ret (pe_tup (pa_cons (pv 1) (pa_cons (pv 2) (pa_cons (pe_op op_cat (pv 3) (pe_lst (pa_cons (pe_callB (w_isx (C := cA K i) (fs := fs) W.ob (W.xb i hi)) (by rfl) T.isi (by decide +kernel) (pa_cons (pv 0) (pa_cons (pe_glob (v := .ref (cA K 14)) (by rfl) (M 14 (by decide)) rfl) pa_nil))) pa_nil))) pa_nil)))))))))))))), ?_⟩
    obtain ⟨b0, b1, b2, b3⟩ := W.base i hi
    have nr := W.narrow i hi
    have ow := W.own i hi
    -- _law_bases = [..]
    refine ⟨fun σ H1 => ∃ l1, σ = [some (.ref e), some (.ref l1), none, none] ∧ Same H H1 ∧ H l1 = none ∧ H1 l1 = some (.lst ((flags i).take 3)), ?_, ?_⟩
    · simp [tSeq, tAsg, gName, tIf, tTest, tB, tOp, tVar, tC, tCB, tCons, tNil, rI0, rI, tRet, tRetN, tLst, tTup, L2.start, tIfS, CMul, CPow, CDiv, cxOf, Cx.nox, tDrop, gSub, rSetL, tCall, tNext, tPar, tXNew, tXGet, tAndV, tOrV, tNotV, tXSet, tBM, tBM0, tyV_l, rAppend, rCat, upd_same, upd_none, sizeLine_eq, and_assoc, -Bool.exists_bool, he, b0, b1, b2, b3, three_ok]
      exact fun p hp => ⟨same_new hp, hp, rfl⟩
    rintro _ H1 ⟨l1, rfl, s1, n1, e1⟩
    have he1 := he.same s1
    -- _law_bases.append(..)
    refine ⟨fun σ H2 => σ = [some (.ref e), some (.ref l1), none, none] ∧ Same H H2 ∧ H2 l1 = some (.lst (flags i)), ?_, ?_⟩
    · simp [tSeq, tAsg, gName, tIf, tTest, tB, tOp, tVar, tC, tCB, tCons, tNil, rI0, rI, tRet, tRetN, tLst, tTup, L2.start, tIfS, CMul, CPow, CDiv, cxOf, Cx.nox, tDrop, gSub, rSetL, tCall, tNext, tPar, tXNew, tXGet, tAndV, tOrV, tNotV, tXSet, tBM, tBM0, tyV_l, rAppend, rCat, upd_same, upd_none, sizeLine_eq, and_assoc, -Bool.exists_bool, he1, b0, b1, b2, b3, e1]
      exact ⟨Nat.lt_of_le_of_lt (Nat.min_le_left _ _) (by decide), same_upd s1 n1, rfl⟩
    rintro _ H2 ⟨rfl, s2, e2⟩
    have he2 := he.same s2
    -- _law_narrow = ..
    refine ⟨fun σ H3 => σ = [some (.ref e), some (.ref l1), some (.bl false), none] ∧ Same H H3 ∧ H3 l1 = some (.lst (flags i)), ?_, ?_⟩
    · simp [tSeq, tAsg, gName, tIf, tTest, tB, tOp, tVar, tC, tCB, tCons, tNil, rI0, rI, tRet, tRetN, tLst, tTup, L2.start, tIfS, CMul, CPow, CDiv, cxOf, Cx.nox, tDrop, gSub, rSetL, tCall, tNext, tPar, tXNew, tXGet, tAndV, tOrV, tNotV, tXSet, tBM, tBM0, tyV_l, rAppend, rCat, upd_same, upd_none, sizeLine_eq, and_assoc, -Bool.exists_bool, he2, nr]
      refine fun p hp => ⟨he2.upd hp, s2.trans (same_new hp), ?_⟩
      rw [upd_ne (ne_of_none e2 hp)]
      exact e2
    rintro _ H3 ⟨rfl, s3, e3⟩
    have he3 := he.same s3
    refine ⟨fun σ H4 => ∃ l2, σ = [some (.ref e), some (.ref l1), some (.bl false), some (.ref l2)] ∧ Same H H4 ∧ H4 l1 = some (.lst (flags i)) ∧ H4 l2 = some (.lst ((marks i).take 4)), ?_, ?_⟩
    · simp [tSeq, tAsg, gName, tIf, tTest, tB, tOp, tVar, tC, tCB, tCons, tNil, rI0, rI, tRet, tRetN, tLst, tTup, L2.start, tIfS, CMul, CPow, CDiv, cxOf, Cx.nox, tDrop, gSub, rSetL, tCall, tNext, tPar, tXNew, tXGet, tAndV, tOrV, tNotV, tXSet, tBM, tBM0, tyV_l, rAppend, rCat, upd_same, upd_none, sizeLine_eq, and_assoc, -Bool.exists_bool, he3, ow]
      refine fun p hp => ⟨s3.trans (same_new hp), ?_, rfl⟩
      rw [upd_ne (ne_of_none e3 hp)]
      exact e3
    rintro _ H4 ⟨l2, rfl, s4, e4, f4⟩
    have he4 := he.same s4
    refine ⟨fun σ H5 => ∃ l2, σ = [some (.ref e), some (.ref l1), some (.bl false), some (.ref l2)] ∧ Same H H5 ∧ H5 l1 = some (.lst (flags i)) ∧ H5 l2 = some (.lst ((marks i).take 8)), ?_, ?_⟩
    · simp [tSeq, tAsg, gName, tIf, tTest, tB, tOp, tVar, tC, tCB, tCons, tNil, rI0, rI, tRet, tRetN, tLst, tTup, L2.start, tIfS, CMul, CPow, CDiv, cxOf, Cx.nox, tDrop, gSub, rSetL, tCall, tNext, tPar, tXNew, tXGet, tAndV, tOrV, tNotV, tXSet, tBM, tBM0, tyV_l, rAppend, rCat, upd_same, upd_none, sizeLine_eq, and_assoc, -Bool.exists_bool, he4, ow, f4]
      intro p hp
      rw [upd_ne (ne_of_none f4 hp)]
      refine ⟨_, f4, by show _ ≤ _; simp [marks], fun q hn hq => ⟨(s4.trans (same_new hp)).trans (same_new (upd_none.mpr ⟨hn, hq⟩)), ?_, ?_⟩⟩
      · rw [upd_ne (ne_of_none e4 hq), upd_ne (ne_of_none e4 hp)]
        exact e4
      · rfl
    rintro _ H4 ⟨l2, rfl, s4, e4, f4⟩
    have he4 := he.same s4
    refine ⟨fun σ H5 => ∃ l2, σ = [some (.ref e), some (.ref l1), some (.bl false), some (.ref l2)] ∧ Same H H5 ∧ H5 l1 = some (.lst (flags i)) ∧ H5 l2 = some (.lst ((marks i).take 11)), ?_, ?_⟩
    · simp [tSeq, tAsg, gName, tIf, tTest, tB, tOp, tVar, tC, tCB, tCons, tNil, rI0, rI, tRet, tRetN, tLst, tTup, L2.start, tIfS, CMul, CPow, CDiv, cxOf, Cx.nox, tDrop, gSub, rSetL, tCall, tNext, tPar, tXNew, tXGet, tAndV, tOrV, tNotV, tXSet, tBM, tBM0, tyV_l, rAppend, rCat, upd_same, upd_none, sizeLine_eq, and_assoc, -Bool.exists_bool, he4, ow, f4]
      intro p hp
      rw [upd_ne (ne_of_none f4 hp)]
      refine ⟨_, f4, by show _ ≤ _; simp [marks], fun q hn hq => ⟨(s4.trans (same_new hp)).trans (same_new (upd_none.mpr ⟨hn, hq⟩)), ?_, ?_⟩⟩
      · rw [upd_ne (ne_of_none e4 hq), upd_ne (ne_of_none e4 hp)]
        exact e4
      · rfl
    rintro _ H4 ⟨l2, rfl, s4, e4, f4⟩
    have he4 := he.same s4
    refine ⟨fun σ H5 => ∃ l2, σ = [some (.ref e), some (.ref l1), some (.bl false), some (.ref l2)] ∧ Same H H5 ∧ H5 l1 = some (.lst (flags i)) ∧ H5 l2 = some (.lst ((marks i).take 14)), ?_, ?_⟩
    · simp [tSeq, tAsg, gName, tIf, tTest, tB, tOp, tVar, tC, tCB, tCons, tNil, rI0, rI, tRet, tRetN, tLst, tTup, L2.start, tIfS, CMul, CPow, CDiv, cxOf, Cx.nox, tDrop, gSub, rSetL, tCall, tNext, tPar, tXNew, tXGet, tAndV, tOrV, tNotV, tXSet, tBM, tBM0, tyV_l, rAppend, rCat, upd_same, upd_none, sizeLine_eq, and_assoc, -Bool.exists_bool, he4, ow, f4]
      intro p hp
      rw [upd_ne (ne_of_none f4 hp)]
      refine ⟨_, f4, by show _ ≤ _; simp [marks], fun q hn hq => ⟨(s4.trans (same_new hp)).trans (same_new (upd_none.mpr ⟨hn, hq⟩)), ?_, ?_⟩⟩
      · rw [upd_ne (ne_of_none e4 hq), upd_ne (ne_of_none e4 hp)]
        exact e4
      · rfl
    rintro _ H4 ⟨l2, rfl, s4, e4, f4⟩
    have he4 := he.same s4
    simp [tSeq, tAsg, gName, tIf, tTest, tB, tOp, tVar, tC, tCB, tCons, tNil, rI0, rI, tRet, tRetN, tLst, tTup, L2.start, tIfS, CMul, CPow, CDiv, cxOf, Cx.nox, tDrop, gSub, rSetL, tCall, tNext, tPar, tXNew, tXGet, tAndV, tOrV, tNotV, tXSet, tBM, tBM0, tyV_l, rAppend, rCat, upd_same, upd_none, sizeLine_eq, and_assoc, -Bool.exists_bool, he4, ow]
    intro p hp
    rw [upd_ne (ne_of_none f4 hp)]
    refine ⟨_, f4, by show _ ≤ _; simp [marks], fun q hn hq t tn1 tn2 ht => ?_⟩
    refine k _ l1 q t (((s4.trans (same_new hp)).trans (same_new (upd_none.mpr ⟨hn, hq⟩))).trans (same_new (upd_none.mpr ⟨tn1, upd_none.mpr ⟨tn2, ht⟩⟩))) ?_ ?_ upd_same
    · rw [upd_ne (ne_of_none e4 ht), upd_ne (ne_of_none e4 hq), upd_ne (ne_of_none e4 hp)]
      exact e4
    · rw [upd_ne (Ne.symm tn1), upd_same]
      rfl

end
end K76
set_option Elab.async false
set_option linter.all false
set_option maxRecDepth 100000
set_option maxHeartbeats 4000000
namespace K76
open PySem L2
section
variable {P : Program} {w : World} {K : PySem.W.Frag} {mg : Str → Option Value} {base : Heap}

structure Cs (P : Program) (w : World) (K : PySem.W.Frag) (mg : Str → Option Value) (base : Heap) : Prop where
  x0 : Xk P w K mg base "BadWarning" (cA K 0) ["self", "field"] (spXa (cA K 0) "field")
  n0_field : PySem.W.findIn K (.ref (cA K 0)) "field" = some none
  x1 : Xk P w K mg base "BadFilter" (cA K 1) ["self", "field"] (spXa (cA K 1) "field")
  n1_field : PySem.W.findIn K (.ref (cA K 1)) "field" = some none
  x2 : Xk P w K mg base "BadTable" (cA K 2) ["self", "index"] (spXa (cA K 2) "index")
  n2_index : PySem.W.findIn K (.ref (cA K 2)) "index" = some none
  x3 : Xk P w K mg base "BadOption" (cA K 3) ["self", "reason", "at"] (spXb (cA K 3) "reason" "at")
  n3_reason : PySem.W.findIn K (.ref (cA K 3)) "reason" = some none
  n3_at : PySem.W.findIn K (.ref (cA K 3)) "at" = some none
  x4 : Xk P w K mg base "NoCategory" (cA K 4) ["self", "name"] (spXa (cA K 4) "name")
  n4_name : PySem.W.findIn K (.ref (cA K 4)) "name" = some none
  x5 : Xk P w K mg base "NoFilter" (cA K 5) ["self", "index"] (spXa (cA K 5) "index")
  n5_index : PySem.W.findIn K (.ref (cA K 5)) "index" = some none
  x6 : Xk P w K mg base "Raised" (cA K 6) ["self", "warning"] (spXa (cA K 6) "warning")
  n6_warning : PySem.W.findIn K (.ref (cA K 6)) "warning" = some none
  x7 : Xk0 K mg "NoBlock" (cA K 7)
  x8 : Xk P w K mg base "TooMany" (cA K 8) ["self", "count"] (spXa (cA K 8) "count")
  n8_count : PySem.W.findIn K (.ref (cA K 8)) "count" = some none
  x9 : Xk P w K mg base "BadPattern" (cA K 9) ["self", "index"] (spXa (cA K 9) "index")
  n9_index : PySem.W.findIn K (.ref (cA K 9)) "index" = some none
  x10 : Xk P w K mg base "BadScript" (cA K 10) ["self", "task", "step"] (spXb (cA K 10) "task" "step")
  n10_task : PySem.W.findIn K (.ref (cA K 10)) "task" = some none
  n10_step : PySem.W.findIn K (.ref (cA K 10)) "step" = some none
  x11 : Xk0 K mg "BadOrder" (cA K 11)
  x12 : Xk0 K mg "BadOutcome" (cA K 12)
  x13 : Xk P w K mg base "NoStep" (cA K 13) ["self", "task", "step"] (spXb (cA K 13) "task" "step")
  n13_task : PySem.W.findIn K (.ref (cA K 13)) "task" = some none
  n13_step : PySem.W.findIn K (.ref (cA K 13)) "step" = some none
  x14 : Xk P w K mg base "TooWide" (cA K 14) ["self", "what"] (spXa (cA K 14) "what")
  n14_what : PySem.W.findIn K (.ref (cA K 14)) "what" = some none
  take : Cl P w K mg base CX0 1 "_law_take" ["_law_bag_here", "_law_many"] spTake

abbrev sMade : Stmt := (top 19)
theorem scMade : FnScope ["_law_bag_here", "_law_things", "_law_one", "_law_other", "_law_bad", "_law_filt", "_law_table", "_law_old", "_law_name", "_law_spot", "_law_told", "_law_many", "_law_found", "_law_plan", "_law_path", "_law_step", "_law_wide"] ["_law_bag_here"] (defScope sMade) := ⟨rfl, rfl, rfl, by decide +kernel, rfl, by decide +kernel, by decide +kernel⟩


/-- the list of the law: a tuple for each class so far, in order -/
def Fnd (K : PySem.W.Frag) (H : Hp) (ts : List Addr) : Prop := ∀ (i : Nat) (t : Addr), ts[i]? = some t → ∃ e fs, H t = some (.tup [.ref e, .int (bs.getD i 0), .bl true]) ∧ ExAt H e (cA K i) fs
theorem Fnd.same {K : PySem.W.Frag} {H H' : Hp} {ts : List Addr} (f : Fnd K H ts) (s : Same H H') : Fnd K H' ts := fun i t h => by
  obtain ⟨e, fs, h1, h2⟩ := f i t h
  exact ⟨e, fs, s _ _ h1, h2.same s⟩
theorem Fnd.add {K : PySem.W.Frag} {H : Hp} {ts : List Addr} {t e : Addr} {fs : List (Str × V)} (n : Nat) (hn : ts.length = n) (f : Fnd K H ts) (h : H t = some (.tup [.ref e, .int (bs.getD n 0), .bl true])) (x : ExAt H e (cA K n) fs) : Fnd K H (ts ++ [t]) := fun i u hu => by
  subst hn
  by_cases hi : i < ts.length
  · rw [List.getElem?_append_left hi] at hu
    exact f i u hu
  · have e1 : i = ts.length := by
      have := (List.getElem?_eq_some_iff.mp hu).1
      rw [List.length_append] at this
      simp at this
      omega
    subst e1
    rw [List.getElem?_append_right (Nat.le_refl _), Nat.sub_self] at hu
    cases hu
    exact ⟨e, fs, h, x⟩
theorem Fnd.over {K : PySem.W.Frag} {H H' : Hp} {ts : List Addr} {F : Addr} {xs : List V} (f : Fnd K H ts) (e : H F = some (.lst xs)) (s : Over H F H') : Fnd K H' ts := fun i t h => by
  obtain ⟨x, fs, h1, h2⟩ := f i t h
  refine ⟨x, fs, s _ _ (fun q => ?_) h1, h2.over e s⟩
  rw [q, e] at h1
  cases h1
theorem Fnd.nil {K : PySem.W.Frag} {H : Hp} : Fnd K H [] := fun i t h => by simp at h
def spMade (K : PySem.W.Frag) : Sp := fun vs H Q _ => ∃ (b : Addr), vs = [.ref b] ∧ BagAt H b 0 ∧
  ∀ (H' : Hp) (p : Addr) (ts : List Addr), Over H b H' → ts.length = 15 → Fnd K H' ts → H' p = some (.lst (ts.map V.ref)) → Q (.ref p) H'
theorem ok_made {f : Addr} {fd : FuncData} (F : FnP K "_law_made" "_law_made" sMade f fd) (T : Bt mg) (S : Cs P w K mg base) : FnOk P w K mg base CX0 3 f fd ["_law_bag_here"] (spMade K) := by
  refine F.ok scMade (fun vs H Q E h => ?_) (fun cdv A outer s H vs Q E hr h => ?_)
  · obtain ⟨b, rfl, _⟩ := h
    rfl
  · obtain ⟨b, rfl, hb, k⟩ := h
    refine ⟨_, PSs.nox ((pss_mid (ps_set (i := 1) scMade.nd rfl (Or.inl rfl) (pe_lst (pa_cons pe_non (pa_cons pe_int (pa_cons pe_str (pa_cons (pe_tup (pa_cons pe_str (pa_cons pe_int pa_nil))) (pa_cons (pe_lst (pa_cons pe_int pa_nil)) (pa_cons pe_bl (pa_cons (pe_disp (pps_cons pe_str pe_int pps_nil) (by rfl) (by rfl) (fun z => by cases z) (by decide)) pa_nil)))))))))
    (pss_mid (ps_par (i := 2) (j := 3) (by rfl) scMade.nd rfl rfl (by decide) rfl rfl (pa_cons (pe_ix w_ix (pv 1) (pe_cl S.take hr (by decide) rfl (pa_cons (pv 0) (pa_cons pe_int pa_nil))) (fun _ _ => rfl)) (pa_cons (pe_ix w_ix (pv 1) (pe_cl S.take hr (by decide) rfl (pa_cons (pv 0) (pa_cons pe_int pa_nil))) (fun _ _ => rfl)) pa_nil)) (by rfl))
    (pss_mid (ps_par (i := 4) (j := 5) (by rfl) scMade.nd rfl rfl (by decide) rfl rfl (pa_cons (pe_xk S.x0 hr (by decide) rfl (pa_cons (pv 2) pa_nil)) (pa_cons (pe_xk S.x1 hr (by decide) rfl (pa_cons (pv 2) pa_nil)) pa_nil)) (by rfl))
    (pss_mid (ps_par (i := 6) (j := 7) (by rfl) scMade.nd rfl rfl (by decide) rfl rfl (pa_cons (pe_xk S.x2 hr (by decide) rfl (pa_cons (pv 2) pa_nil)) (pa_cons (pe_xk S.x3 hr (by decide) rfl (pa_cons (pv 2) (pa_cons (pv 3) pa_nil))) pa_nil)) (by rfl))
    (pss_mid (ps_par (i := 8) (j := 9) (by rfl) scMade.nd rfl rfl (by decide) rfl rfl (pa_cons (pe_xk S.x4 hr (by decide) rfl (pa_cons (pv 2) pa_nil)) (pa_cons (pe_xk S.x5 hr (by decide) rfl (pa_cons (pv 2) pa_nil)) pa_nil)) (by rfl))
    (pss_mid (ps_par (i := 10) (j := 11) (by rfl) scMade.nd rfl rfl (by decide) rfl rfl (pa_cons (pe_xk S.x6 hr (by decide) rfl (pa_cons (pv 2) pa_nil)) (pa_cons (pe_xk S.x8 hr (by decide) rfl (pa_cons (pv 2) pa_nil)) pa_nil)) (by rfl))
    (pss_mid (ps_set (i := 12) scMade.nd rfl (Or.inl rfl) (pe_lst (pa_cons (pe_tup (pa_cons (pv 4) (pa_cons pe_int (pa_cons (pe_cmpR (op_same hr.units) (pe_xf2 S.x0.xb S.n0_field (pv 4)) (pv 2) (nomark _)) pa_nil)))) (pa_cons (pe_tup (pa_cons (pv 5) (pa_cons pe_int (pa_cons (pe_cmpR (op_same hr.units) (pe_xf2 S.x1.xb S.n1_field (pv 5)) (pv 2) (nomark _)) pa_nil)))) (pa_cons (pe_tup (pa_cons (pv 6) (pa_cons pe_int (pa_cons (pe_cmpR (op_same hr.units) (pe_xf2 S.x2.xb S.n2_index (pv 6)) (pv 2) (nomark _)) pa_nil)))) pa_nil)))))
    (pss_mid (ps_set (i := 12) scMade.nd rfl (Or.inl rfl) (pe_op op_cat (pv 12) (pe_lst (pa_cons (pe_tup (pa_cons (pv 7) (pa_cons pe_int (pa_cons (pe_and (pe_cmpR (op_same hr.units) (pe_xf2 S.x3.xb S.n3_reason (pv 7)) (pv 2) (nomark _)) (pe_one (pe_cmpR (op_same hr.units) (pe_xf2 S.x3.xb S.n3_at (pv 7)) (pv 3) (nomark _)))) pa_nil)))) (pa_cons (pe_tup (pa_cons (pv 8) (pa_cons pe_int (pa_cons (pe_cmpR (op_same hr.units) (pe_xf2 S.x4.xb S.n4_name (pv 8)) (pv 2) (nomark _)) pa_nil)))) pa_nil)))))
    (pss_mid (ps_set (i := 12) scMade.nd rfl (Or.inl rfl) (pe_op op_cat (pv 12) (pe_lst (pa_cons (pe_tup (pa_cons (pv 9) (pa_cons pe_int (pa_cons (pe_cmpR (op_same hr.units) (pe_xf2 S.x5.xb S.n5_index (pv 9)) (pv 2) (nomark _)) pa_nil)))) (pa_cons (pe_tup (pa_cons (pv 10) (pa_cons pe_int (pa_cons (pe_cmpR (op_same hr.units) (pe_xf2 S.x6.xb S.n6_warning (pv 10)) (pv 2) (nomark _)) pa_nil)))) (pa_cons (pe_tup (pa_cons (pe_xk0 S.x7 rfl) (pa_cons pe_int (pa_cons pe_bl pa_nil)))) pa_nil))))))
    (pss_mid (ps_expr (pe_bm PySem.F.plainAttrs_list PySem.F.slot_list_append PySem.F.type_list_append mt_append (pv 12) (pa_cons (pe_tup (pa_cons (pv 11) (pa_cons pe_int (pa_cons (pe_cmpR (op_same hr.units) (pe_xf2 S.x8.xb S.n8_count (pv 11)) (pv 2) (nomark _)) pa_nil)))) pa_nil)))
    (pss_mid (ps_par (i := 13) (j := 14) (by rfl) scMade.nd rfl rfl (by decide) rfl rfl (pa_cons (pe_xk S.x9 hr (by decide) rfl (pa_cons (pv 2) pa_nil)) (pa_cons (pe_xk S.x10 hr (by decide) rfl (pa_cons (pv 2) (pa_cons (pv 3) pa_nil))) pa_nil)) (by rfl))
    (pss_mid (ps_par (i := 15) (j := 16) (by rfl) scMade.nd rfl rfl (by decide) rfl rfl (pa_cons (pe_xk S.x13 hr (by decide) rfl (pa_cons (pv 2) (pa_cons (pv 3) pa_nil))) (pa_cons (pe_xk S.x14 hr (by decide) rfl (pa_cons (pv 2) pa_nil)) pa_nil)) (by rfl))
    (pss_mid (ps_set (i := 12) scMade.nd rfl (Or.inl rfl) (pe_op op_cat (pv 12) (pe_lst (pa_cons (pe_tup (pa_cons (pv 13) (pa_cons pe_int (pa_cons (pe_cmpR (op_same hr.units) (pe_xf2 S.x9.xb S.n9_index (pv 13)) (pv 2) (nomark _)) pa_nil)))) (pa_cons (pe_tup (pa_cons (pv 14) (pa_cons pe_int (pa_cons (pe_and (pe_cmpR (op_same hr.units) (pe_xf2 S.x10.xb S.n10_task (pv 14)) (pv 2) (nomark _)) (pe_one (pe_cmpR (op_same hr.units) (pe_xf2 S.x10.xb S.n10_step (pv 14)) (pv 3) (nomark _)))) pa_nil)))) pa_nil)))))
    (pss_mid (ps_set (i := 12) scMade.nd rfl (Or.inl rfl) (pe_op op_cat (pv 12) (pe_lst (pa_cons (pe_tup (pa_cons (pe_xk0 S.x11 rfl) (pa_cons pe_int (pa_cons pe_bl pa_nil)))) (pa_cons (pe_tup (pa_cons (pe_xk0 S.x12 rfl) (pa_cons pe_int (pa_cons pe_bl pa_nil)))) pa_nil)))))
    (pss_mid (ps_expr (pe_bm PySem.F.plainAttrs_list PySem.F.slot_list_append PySem.F.type_list_append mt_append (pv 12) (pa_cons (pe_tup (pa_cons (pv 15) (pa_cons pe_int (pa_cons (pe_and (pe_cmpR (op_same hr.units) (pe_xf2 S.x13.xb S.n13_task (pv 15)) (pv 2) (nomark _)) (pe_one (pe_cmpR (op_same hr.units) (pe_xf2 S.x13.xb S.n13_step (pv 15)) (pv 3) (nomark _)))) pa_nil)))) pa_nil)))
    (pss_one (ps_ret (pe_op op_cat (pv 12) (pe_lst (pa_cons (pe_tup (pa_cons (pv 16) (pa_cons pe_int (pa_cons (pe_cmpR (op_same hr.units) (pe_xf2 S.x14.xb S.n14_what (pv 16)) (pv 2) (nomark _)) pa_nil)))) pa_nil))))))))))))))))))))), ?_⟩
    -- _law_things = [..]
    refine ⟨fun σ H1 => ∃ L t l d, σ = [some (.ref b), some (.ref L)] ++ List.replicate 15 none ∧ Same H H1 ∧ H L = none ∧ H1 L = some (.lst [.non, .int 0, .str "a", .ref t, .ref l, .bl true, .ref d]) ∧ H t = none ∧ H1 t = some (.tup [.str "a", .int 1]) ∧ H l = none ∧ H1 l = some (.lst [.int 1]) ∧ H d = none ∧ H1 d = some (.dK [((Sum.inr "a" : Key), .int 1)]), ?_, ?_⟩
    · simp [tSeq, tAsg, gName, tIf, tTest, tB, tOp, tVar, tC, tCB, tCons, tNil, rI0, rI, tRet, tRetN, tLst, tTup, L2.start, tIfS, CMul, CPow, CDiv, cxOf, Cx.nox, tDrop, gSub, rSetL, tCall, tNext, tPar, tXNew, tXGet, tAndV, tOrV, tNotV, tXSet, tBM, tBM0, tyV_l, rAppend, rCat, upd_same, upd_none, sizeLine_eq, and_assoc, -Bool.exists_bool, spXa, spXb, spTake, tXF, rSame, tDisp, tPairs]
      refine fun t ht l n1 hl d n2 n3 hd => ⟨[((Sum.inr "a" : Key), .int 1)], rfl, by decide, fun L n4 n5 n6 hL => ⟨?_, hL, ht, ?_, hl, ?_, hd, ?_⟩⟩
      · exact same_upd (same_upd (same_upd (same_upd (same_new ht) hl) hd) hd) hL
      · simp [upd_same, upd_n1, upd_n2, *]
      · simp [upd_same, upd_n1, upd_n2, *]
      · simp [upd_same, upd_n1, upd_n2, *]
        rfl
    rintro _ H1 ⟨L, t, l, d, rfl, s1, nL, eL, nt, et, nl, el, nd, ed⟩
    have hbb := hb
    obtain ⟨g, x, c, hb1, g0, x0, x1, c0, c1⟩ := hb
    have nbL : L ≠ b := fun z => by rw [z, hb1] at nL; cases nL
    have nbt : t ≠ b := fun z => by rw [z, hb1] at nt; cases nt
    have nbl : l ≠ b := fun z => by rw [z, hb1] at nl; cases nl
    have nbd : d ≠ b := fun z => by rw [z, hb1] at nd; cases nd
    have item : ∀ (i : Int), 0 ≤ i → i < 7 → ∀ H', H' t = some (.tup [.str "a", .int 1]) → H' l = some (.lst [.int 1]) → H' d = some (.dK [((Sum.inr "a" : Key), .int 1)]) →
        ∃ v, atI [V.non, .int 0, .str "a", .ref t, .ref l, .bl true, .ref d] i = some v ∧ Th H' v := by
      intro i i0 i7 H' e1 e2 e3
      have : i = 0 ∨ i = 1 ∨ i = 2 ∨ i = 3 ∨ i = 4 ∨ i = 5 ∨ i = 6 := by omega
      rcases this with rfl | rfl | rfl | rfl | rfl | rfl | rfl
      · exact ⟨_, rfl, .inl rfl⟩
      · exact ⟨_, rfl, .inr (.inl rfl)⟩
      · exact ⟨_, rfl, .inr (.inr (.inl rfl))⟩
      · exact ⟨_, rfl, .inr (.inr (.inr (.inr (.inl ⟨_, rfl, e1⟩))))⟩
      · exact ⟨_, rfl, .inr (.inr (.inr (.inr (.inr (.inl ⟨_, rfl, e2⟩)))))⟩
      · exact ⟨_, rfl, .inr (.inr (.inr (.inl rfl)))⟩
      · exact ⟨_, rfl, .inr (.inr (.inr (.inr (.inr (.inr ⟨_, rfl, e3⟩)))))⟩
    have hB1 : BagAt H1 b 0 := ⟨g, x, c, s1 _ _ hb1, g0, x0, x1, c0, c1⟩
    -- _law_one, _law_other
    refine ⟨fun σ H2 => ∃ u v, σ = [some (.ref b), some (.ref L), some u, some v] ++ List.replicate 13 none ∧ Over H b H2 ∧ Th H2 u ∧ Th H2 v, ?_, ?_⟩
    · simp [tSeq, tAsg, gName, tIf, tTest, tB, tOp, tVar, tC, tCB, tCons, tNil, rI0, rI, tRet, tRetN, tLst, tTup, L2.start, tIfS, CMul, CPow, CDiv, cxOf, Cx.nox, tDrop, gSub, rSetL, tCall, tNext, tPar, tXNew, tXGet, tAndV, tOrV, tNotV, tXSet, tBM, tBM0, tyV_l, rAppend, rCat, upd_same, upd_none, sizeLine_eq, and_assoc, -Bool.exists_bool, spXa, spXb, spTake, tXF, rSame, tDisp, tPairs, eL, hB1]
      refine ⟨0, hB1, by decide, fun i l1 i0 i7 B1 => ?_⟩
      have o1 : Over H b (upd H1 b (.lst l1)) := fun c o h1 h2 => by rw [upd_ne h1]; exact s1 _ _ h2
      obtain ⟨u, hu, tu⟩ := item i i0 i7 (upd H1 b (.lst l1)) (by rw [upd_ne nbt]; exact et) (by rw [upd_ne nbl]; exact el) (by rw [upd_ne nbd]; exact ed)
      refine ⟨_, by rw [upd_ne nbL]; exact eL, u, hu, 1, B1, by decide, fun i2 l2 i20 i27 B2 => ?_⟩
      rw [upd_upd]
      obtain ⟨v, hv, tv⟩ := item i2 i20 i27 (upd H1 b (.lst l2)) (by rw [upd_ne nbt]; exact et) (by rw [upd_ne nbl]; exact el) (by rw [upd_ne nbd]; exact ed)
      refine ⟨_, by rw [upd_ne nbL]; exact eL, v, hv, fun c o h1 h2 => by rw [upd_ne h1]; exact s1 _ _ h2, ?_, tv⟩
      obtain ⟨u2, hu2, tu2⟩ := item i i0 i7 (upd H1 b (.lst l2)) (by rw [upd_ne nbt]; exact et) (by rw [upd_ne nbl]; exact el) (by rw [upd_ne nbd]; exact ed)
      rw [hu] at hu2
      cases hu2
      exact tu2
    rintro _ H2 ⟨u, v, rfl, o2, tu, tv⟩
    have ov : ∀ {H'}, Same H2 H' → Over H b H' := fun s c o h1 h2 => s _ _ (o2 c o h1 h2)
    -- _law_bad, _law_filt = (BadWarning(_law_one), BadFilter(_law_one))
    refine ⟨fun σ H3 => ∃ (e0 e1 : Addr), σ = [some (.ref b), some (.ref L), some u, some v, some (.ref e0), some (.ref e1), none, none, none, none, none, none, none, none, none, none, none] ∧ Same H2 H3 ∧ Th H3 u ∧ Th H3 v ∧ XAt H3 e0 (cA K 0) [(("field" : Str), u)] ∧ XAt H3 e1 (cA K 1) [(("field" : Str), u)], ?_, ?_⟩
    · simp [tSeq, tAsg, gName, tIf, tTest, tB, tOp, tVar, tC, tCB, tCons, tNil, rI0, rI, tRet, tRetN, tLst, tTup, L2.start, tIfS, CMul, CPow, CDiv, cxOf, Cx.nox, tDrop, gSub, rSetL, tCall, tNext, tPar, tXNew, tXGet, tAndV, tOrV, tNotV, tXSet, tBM, tBM0, tyV_l, rAppend, rCat, upd_same, upd_none, sizeLine_eq, and_assoc, -Bool.exists_bool, spXa, spXb, spTake, tXF, rSame, tDisp, tPairs]
      intro a1 n1 G1 o1 z1 a2 n2 G2 o2 z2
      have t1 := (o1.same n1).trans (o2.same n2)
      exact ⟨(Same.refl H2).trans t1, tu.same t1, tv.same t1, z1.same (o2.same n2), z2⟩
    rintro _ H3 ⟨e0, e1, rfl, s3, tu3, tv3, y0, y1⟩
    -- _law_table, _law_old = (BadTable(_law_one), BadOption(_law_one, _law_other))
    refine ⟨fun σ H3 => ∃ (e0 e1 e2 e3 : Addr), σ = [some (.ref b), some (.ref L), some u, some v, some (.ref e0), some (.ref e1), some (.ref e2), some (.ref e3), none, none, none, none, none, none, none, none, none] ∧ Same H2 H3 ∧ Th H3 u ∧ Th H3 v ∧ XAt H3 e0 (cA K 0) [(("field" : Str), u)] ∧ XAt H3 e1 (cA K 1) [(("field" : Str), u)] ∧ XAt H3 e2 (cA K 2) [(("index" : Str), u)] ∧ XAt H3 e3 (cA K 3) [(("at" : Str), v), (("reason" : Str), u)], ?_, ?_⟩
    · simp [tSeq, tAsg, gName, tIf, tTest, tB, tOp, tVar, tC, tCB, tCons, tNil, rI0, rI, tRet, tRetN, tLst, tTup, L2.start, tIfS, CMul, CPow, CDiv, cxOf, Cx.nox, tDrop, gSub, rSetL, tCall, tNext, tPar, tXNew, tXGet, tAndV, tOrV, tNotV, tXSet, tBM, tBM0, tyV_l, rAppend, rCat, upd_same, upd_none, sizeLine_eq, and_assoc, -Bool.exists_bool, spXa, spXb, spTake, tXF, rSame, tDisp, tPairs]
      intro a1 n1 G1 o1 z1 a2 n2 G2 o2 z2
      have t1 := (o1.same n1).trans (o2.same n2)
      exact ⟨s3.trans t1, tu3.same t1, tv3.same t1, y0.same t1, y1.same t1, z1.same (o2.same n2), z2⟩
    rintro _ H3 ⟨e0, e1, e2, e3, rfl, s3, tu3, tv3, y0, y1, y2, y3⟩
    -- _law_name, _law_spot = (NoCategory(_law_one), NoFilter(_law_one))
    refine ⟨fun σ H3 => ∃ (e0 e1 e2 e3 e4 e5 : Addr), σ = [some (.ref b), some (.ref L), some u, some v, some (.ref e0), some (.ref e1), some (.ref e2), some (.ref e3), some (.ref e4), some (.ref e5), none, none, none, none, none, none, none] ∧ Same H2 H3 ∧ Th H3 u ∧ Th H3 v ∧ XAt H3 e0 (cA K 0) [(("field" : Str), u)] ∧ XAt H3 e1 (cA K 1) [(("field" : Str), u)] ∧ XAt H3 e2 (cA K 2) [(("index" : Str), u)] ∧ XAt H3 e3 (cA K 3) [(("at" : Str), v), (("reason" : Str), u)] ∧ XAt H3 e4 (cA K 4) [(("name" : Str), u)] ∧ XAt H3 e5 (cA K 5) [(("index" : Str), u)], ?_, ?_⟩
    · simp [tSeq, tAsg, gName, tIf, tTest, tB, tOp, tVar, tC, tCB, tCons, tNil, rI0, rI, tRet, tRetN, tLst, tTup, L2.start, tIfS, CMul, CPow, CDiv, cxOf, Cx.nox, tDrop, gSub, rSetL, tCall, tNext, tPar, tXNew, tXGet, tAndV, tOrV, tNotV, tXSet, tBM, tBM0, tyV_l, rAppend, rCat, upd_same, upd_none, sizeLine_eq, and_assoc, -Bool.exists_bool, spXa, spXb, spTake, tXF, rSame, tDisp, tPairs]
      intro a1 n1 G1 o1 z1 a2 n2 G2 o2 z2
      have t1 := (o1.same n1).trans (o2.same n2)
      exact ⟨s3.trans t1, tu3.same t1, tv3.same t1, y0.same t1, y1.same t1, y2.same t1, y3.same t1, z1.same (o2.same n2), z2⟩
    rintro _ H3 ⟨e0, e1, e2, e3, e4, e5, rfl, s3, tu3, tv3, y0, y1, y2, y3, y4, y5⟩
    -- _law_told, _law_many = (Raised(_law_one), TooMany(_law_one))
    refine ⟨fun σ H3 => ∃ (e0 e1 e2 e3 e4 e5 e6 e8 : Addr), σ = [some (.ref b), some (.ref L), some u, some v, some (.ref e0), some (.ref e1), some (.ref e2), some (.ref e3), some (.ref e4), some (.ref e5), some (.ref e6), some (.ref e8), none, none, none, none, none] ∧ Same H2 H3 ∧ Th H3 u ∧ Th H3 v ∧ XAt H3 e0 (cA K 0) [(("field" : Str), u)] ∧ XAt H3 e1 (cA K 1) [(("field" : Str), u)] ∧ XAt H3 e2 (cA K 2) [(("index" : Str), u)] ∧ XAt H3 e3 (cA K 3) [(("at" : Str), v), (("reason" : Str), u)] ∧ XAt H3 e4 (cA K 4) [(("name" : Str), u)] ∧ XAt H3 e5 (cA K 5) [(("index" : Str), u)] ∧ XAt H3 e6 (cA K 6) [(("warning" : Str), u)] ∧ XAt H3 e8 (cA K 8) [(("count" : Str), u)], ?_, ?_⟩
    · simp [tSeq, tAsg, gName, tIf, tTest, tB, tOp, tVar, tC, tCB, tCons, tNil, rI0, rI, tRet, tRetN, tLst, tTup, L2.start, tIfS, CMul, CPow, CDiv, cxOf, Cx.nox, tDrop, gSub, rSetL, tCall, tNext, tPar, tXNew, tXGet, tAndV, tOrV, tNotV, tXSet, tBM, tBM0, tyV_l, rAppend, rCat, upd_same, upd_none, sizeLine_eq, and_assoc, -Bool.exists_bool, spXa, spXb, spTake, tXF, rSame, tDisp, tPairs]
      intro a1 n1 G1 o1 z1 a2 n2 G2 o2 z2
      have t1 := (o1.same n1).trans (o2.same n2)
      exact ⟨s3.trans t1, tu3.same t1, tv3.same t1, y0.same t1, y1.same t1, y2.same t1, y3.same t1, y4.same t1, y5.same t1, z1.same (o2.same n2), z2⟩
    rintro _ H3 ⟨e0, e1, e2, e3, e4, e5, e6, e8, rfl, s3, tu3, tv3, y0, y1, y2, y3, y4, y5, y6, y8⟩
    -- _law_found = [(_law_bad, 0, _law_bad.field == _law_one), (_law_filt, 0, _law_filt.field == _law_one), (_law_table, 0, _law_table.index == _law_one)]
    refine ⟨fun σ H3 => ∃ (e0 e1 e2 e3 e4 e5 e6 e8 : Addr) (F : Addr) (ts : List Addr), σ = [some (.ref b), some (.ref L), some u, some v, some (.ref e0), some (.ref e1), some (.ref e2), some (.ref e3), some (.ref e4), some (.ref e5), some (.ref e6), some (.ref e8), some (.ref F), none, none, none, none] ∧ Same H2 H3 ∧ Th H3 u ∧ Th H3 v ∧ XAt H3 e0 (cA K 0) [(("field" : Str), u)] ∧ XAt H3 e1 (cA K 1) [(("field" : Str), u)] ∧ XAt H3 e2 (cA K 2) [(("index" : Str), u)] ∧ XAt H3 e3 (cA K 3) [(("at" : Str), v), (("reason" : Str), u)] ∧ XAt H3 e4 (cA K 4) [(("name" : Str), u)] ∧ XAt H3 e5 (cA K 5) [(("index" : Str), u)] ∧ XAt H3 e6 (cA K 6) [(("warning" : Str), u)] ∧ XAt H3 e8 (cA K 8) [(("count" : Str), u)] ∧ H2 F = none ∧ H3 F = some (.lst (ts.map V.ref)) ∧ ts.length = 3 ∧ Fnd K H3 ts, ?_, ?_⟩
    · simp [tSeq, tAsg, gName, tIf, tTest, tB, tOp, tVar, tC, tCB, tCons, tNil, rI0, rI, tRet, tRetN, tLst, tTup, L2.start, tIfS, CMul, CPow, CDiv, cxOf, Cx.nox, tDrop, gSub, rSetL, tCall, tNext, tPar, tXNew, tXGet, tAndV, tOrV, tNotV, tXSet, tBM, tBM0, tyV_l, rAppend, rCat, upd_same, upd_none, sizeLine_eq, and_assoc, -Bool.exists_bool, spXa, spXb, spTake, tXF, rSame, tDisp, tPairs]
      refine ⟨_, y0.same (Same.refl H3), _, rfl, rfl, tu3.same (Same.refl H3), ?_⟩
      intro p0 hp0
      refine ⟨_, y1.same (same_upd (Same.refl H3) hp0), _, rfl, rfl, tu3.same (same_upd (Same.refl H3) hp0), ?_⟩
      intro p1 dp1p0 hp1
      refine ⟨_, y2.same (same_upd (same_upd (Same.refl H3) hp0) hp1), _, rfl, rfl, tu3.same (same_upd (same_upd (Same.refl H3) hp0) hp1), ?_⟩
      intro p2 dp2p1 dp2p0 hp2
      intro q dqp2 dqp1 dqp0 hq
      exact ⟨s3.trans (same_upd (same_upd (same_upd (same_upd (Same.refl H3) hp0) hp1) hp2) hq), tu3.same (same_upd (same_upd (same_upd (same_upd (Same.refl H3) hp0) hp1) hp2) hq), tv3.same (same_upd (same_upd (same_upd (same_upd (Same.refl H3) hp0) hp1) hp2) hq), y0.same (same_upd (same_upd (same_upd (same_upd (Same.refl H3) hp0) hp1) hp2) hq), y1.same (same_upd (same_upd (same_upd (same_upd (Same.refl H3) hp0) hp1) hp2) hq), y2.same (same_upd (same_upd (same_upd (same_upd (Same.refl H3) hp0) hp1) hp2) hq), y3.same (same_upd (same_upd (same_upd (same_upd (Same.refl H3) hp0) hp1) hp2) hq), y4.same (same_upd (same_upd (same_upd (same_upd (Same.refl H3) hp0) hp1) hp2) hq), y5.same (same_upd (same_upd (same_upd (same_upd (Same.refl H3) hp0) hp1) hp2) hq), y6.same (same_upd (same_upd (same_upd (same_upd (Same.refl H3) hp0) hp1) hp2) hq), y8.same (same_upd (same_upd (same_upd (same_upd (Same.refl H3) hp0) hp1) hp2) hq), s3.free hq, ((([] ++ [p0]) ++ [p1]) ++ [p2]), by simp, by simp, Fnd.add 2 (by simp) (Fnd.add 1 (by simp) (Fnd.add 0 (rfl) (Fnd.nil) (by simp [upd_same, upd_n1, upd_n2, *] <;> rfl) (y0.same (same_upd (same_upd (same_upd (same_upd (Same.refl H3) hp0) hp1) hp2) hq)).ex) (by simp [upd_same, upd_n1, upd_n2, *] <;> rfl) (y1.same (same_upd (same_upd (same_upd (same_upd (Same.refl H3) hp0) hp1) hp2) hq)).ex) (by simp [upd_same, upd_n1, upd_n2, *] <;> rfl) (y2.same (same_upd (same_upd (same_upd (same_upd (Same.refl H3) hp0) hp1) hp2) hq)).ex⟩
    rintro _ H3 ⟨e0, e1, e2, e3, e4, e5, e6, e8, F, ts, rfl, s3, tu3, tv3, y0, y1, y2, y3, y4, y5, y6, y8, nF, eF, lF, fF⟩
    -- _law_found = _law_found + [(_law_old, 0, _law_old.reason == _law_one and _law_old.at == _law_other), (_law_name, 1, _law_name.name == _law_one)]
    refine ⟨fun σ H3 => ∃ (e0 e1 e2 e3 e4 e5 e6 e8 : Addr) (F : Addr) (ts : List Addr), σ = [some (.ref b), some (.ref L), some u, some v, some (.ref e0), some (.ref e1), some (.ref e2), some (.ref e3), some (.ref e4), some (.ref e5), some (.ref e6), some (.ref e8), some (.ref F), none, none, none, none] ∧ Same H2 H3 ∧ Th H3 u ∧ Th H3 v ∧ XAt H3 e0 (cA K 0) [(("field" : Str), u)] ∧ XAt H3 e1 (cA K 1) [(("field" : Str), u)] ∧ XAt H3 e2 (cA K 2) [(("index" : Str), u)] ∧ XAt H3 e3 (cA K 3) [(("at" : Str), v), (("reason" : Str), u)] ∧ XAt H3 e4 (cA K 4) [(("name" : Str), u)] ∧ XAt H3 e5 (cA K 5) [(("index" : Str), u)] ∧ XAt H3 e6 (cA K 6) [(("warning" : Str), u)] ∧ XAt H3 e8 (cA K 8) [(("count" : Str), u)] ∧ H2 F = none ∧ H3 F = some (.lst (ts.map V.ref)) ∧ ts.length = 5 ∧ Fnd K H3 ts, ?_, ?_⟩
    · simp [tSeq, tAsg, gName, tIf, tTest, tB, tOp, tVar, tC, tCB, tCons, tNil, rI0, rI, tRet, tRetN, tLst, tTup, L2.start, tIfS, CMul, CPow, CDiv, cxOf, Cx.nox, tDrop, gSub, rSetL, tCall, tNext, tPar, tXNew, tXGet, tAndV, tOrV, tNotV, tXSet, tBM, tBM0, tyV_l, rAppend, rCat, upd_same, upd_none, sizeLine_eq, and_assoc, -Bool.exists_bool, spXa, spXb, spTake, tXF, rSame, tDisp, tPairs]
      refine ⟨_, y3.same (Same.refl H3), _, rfl, rfl, tu3.same (Same.refl H3), ?_⟩
      refine ⟨_, y3.same (Same.refl H3), _, rfl, rfl, tv3.same (Same.refl H3), ?_⟩
      intro p3 hp3
      refine ⟨_, y4.same (same_upd (Same.refl H3) hp3), _, rfl, rfl, tu3.same (same_upd (Same.refl H3) hp3), ?_⟩
      intro p4 dp4p3 hp4
      intro q dqp4 dqp3 hq
      refine ⟨_, (same_upd (same_upd (same_upd (Same.refl H3) hp3) hp4) hq) _ _ eF, by simp [lF], ?_⟩
      intro r drq drp4 drp3 hr
      exact ⟨s3.trans (same_upd (same_upd (same_upd (same_upd (Same.refl H3) hp3) hp4) hq) hr), tu3.same (same_upd (same_upd (same_upd (same_upd (Same.refl H3) hp3) hp4) hq) hr), tv3.same (same_upd (same_upd (same_upd (same_upd (Same.refl H3) hp3) hp4) hq) hr), y0.same (same_upd (same_upd (same_upd (same_upd (Same.refl H3) hp3) hp4) hq) hr), y1.same (same_upd (same_upd (same_upd (same_upd (Same.refl H3) hp3) hp4) hq) hr), y2.same (same_upd (same_upd (same_upd (same_upd (Same.refl H3) hp3) hp4) hq) hr), y3.same (same_upd (same_upd (same_upd (same_upd (Same.refl H3) hp3) hp4) hq) hr), y4.same (same_upd (same_upd (same_upd (same_upd (Same.refl H3) hp3) hp4) hq) hr), y5.same (same_upd (same_upd (same_upd (same_upd (Same.refl H3) hp3) hp4) hq) hr), y6.same (same_upd (same_upd (same_upd (same_upd (Same.refl H3) hp3) hp4) hq) hr), y8.same (same_upd (same_upd (same_upd (same_upd (Same.refl H3) hp3) hp4) hq) hr), s3.free hr, ((ts ++ [p3]) ++ [p4]), by simp, by simp [lF], Fnd.add 4 (by simp [lF]) (Fnd.add 3 (lF) (fF.same (same_upd (same_upd (same_upd (same_upd (Same.refl H3) hp3) hp4) hq) hr)) (by simp [upd_same, upd_n1, upd_n2, *] <;> rfl) (y3.same (same_upd (same_upd (same_upd (same_upd (Same.refl H3) hp3) hp4) hq) hr)).ex) (by simp [upd_same, upd_n1, upd_n2, *] <;> rfl) (y4.same (same_upd (same_upd (same_upd (same_upd (Same.refl H3) hp3) hp4) hq) hr)).ex⟩
    rintro _ H3 ⟨e0, e1, e2, e3, e4, e5, e6, e8, F, ts, rfl, s3, tu3, tv3, y0, y1, y2, y3, y4, y5, y6, y8, nF, eF, lF, fF⟩
    -- _law_found = _law_found + [(_law_spot, 1, _law_spot.index == _law_one), (_law_told, 2, _law_told.warning == _law_one), (NoBlock(), 2, True)]
    refine ⟨fun σ H3 => ∃ (e0 e1 e2 e3 e4 e5 e6 e8 : Addr) (F : Addr) (ts : List Addr), σ = [some (.ref b), some (.ref L), some u, some v, some (.ref e0), some (.ref e1), some (.ref e2), some (.ref e3), some (.ref e4), some (.ref e5), some (.ref e6), some (.ref e8), some (.ref F), none, none, none, none] ∧ Same H2 H3 ∧ Th H3 u ∧ Th H3 v ∧ XAt H3 e0 (cA K 0) [(("field" : Str), u)] ∧ XAt H3 e1 (cA K 1) [(("field" : Str), u)] ∧ XAt H3 e2 (cA K 2) [(("index" : Str), u)] ∧ XAt H3 e3 (cA K 3) [(("at" : Str), v), (("reason" : Str), u)] ∧ XAt H3 e4 (cA K 4) [(("name" : Str), u)] ∧ XAt H3 e5 (cA K 5) [(("index" : Str), u)] ∧ XAt H3 e6 (cA K 6) [(("warning" : Str), u)] ∧ XAt H3 e8 (cA K 8) [(("count" : Str), u)] ∧ H2 F = none ∧ H3 F = some (.lst (ts.map V.ref)) ∧ ts.length = 8 ∧ Fnd K H3 ts, ?_, ?_⟩
    · simp [tSeq, tAsg, gName, tIf, tTest, tB, tOp, tVar, tC, tCB, tCons, tNil, rI0, rI, tRet, tRetN, tLst, tTup, L2.start, tIfS, CMul, CPow, CDiv, cxOf, Cx.nox, tDrop, gSub, rSetL, tCall, tNext, tPar, tXNew, tXGet, tAndV, tOrV, tNotV, tXSet, tBM, tBM0, tyV_l, rAppend, rCat, upd_same, upd_none, sizeLine_eq, and_assoc, -Bool.exists_bool, spXa, spXb, spTake, tXF, rSame, tDisp, tPairs]
      refine ⟨_, y5.same (Same.refl H3), _, rfl, rfl, tu3.same (Same.refl H3), ?_⟩
      intro p5 hp5
      refine ⟨_, y6.same (same_upd (Same.refl H3) hp5), _, rfl, rfl, tu3.same (same_upd (Same.refl H3) hp5), ?_⟩
      intro p6 dp6p5 hp6
      intro a7 da7p6 da7p5 ha7
      intro p7 dp7a7 dp7p6 dp7p5 hp7
      intro q dqp7 dqa7 dqp6 dqp5 hq
      refine ⟨_, (same_upd (same_upd (same_upd (same_upd (same_upd (Same.refl H3) hp5) hp6) ha7) hp7) hq) _ _ eF, by simp [lF], ?_⟩
      intro r drq drp7 dra7 drp6 drp5 hr
      exact ⟨s3.trans (same_upd (same_upd (same_upd (same_upd (same_upd (same_upd (Same.refl H3) hp5) hp6) ha7) hp7) hq) hr), tu3.same (same_upd (same_upd (same_upd (same_upd (same_upd (same_upd (Same.refl H3) hp5) hp6) ha7) hp7) hq) hr), tv3.same (same_upd (same_upd (same_upd (same_upd (same_upd (same_upd (Same.refl H3) hp5) hp6) ha7) hp7) hq) hr), y0.same (same_upd (same_upd (same_upd (same_upd (same_upd (same_upd (Same.refl H3) hp5) hp6) ha7) hp7) hq) hr), y1.same (same_upd (same_upd (same_upd (same_upd (same_upd (same_upd (Same.refl H3) hp5) hp6) ha7) hp7) hq) hr), y2.same (same_upd (same_upd (same_upd (same_upd (same_upd (same_upd (Same.refl H3) hp5) hp6) ha7) hp7) hq) hr), y3.same (same_upd (same_upd (same_upd (same_upd (same_upd (same_upd (Same.refl H3) hp5) hp6) ha7) hp7) hq) hr), y4.same (same_upd (same_upd (same_upd (same_upd (same_upd (same_upd (Same.refl H3) hp5) hp6) ha7) hp7) hq) hr), y5.same (same_upd (same_upd (same_upd (same_upd (same_upd (same_upd (Same.refl H3) hp5) hp6) ha7) hp7) hq) hr), y6.same (same_upd (same_upd (same_upd (same_upd (same_upd (same_upd (Same.refl H3) hp5) hp6) ha7) hp7) hq) hr), y8.same (same_upd (same_upd (same_upd (same_upd (same_upd (same_upd (Same.refl H3) hp5) hp6) ha7) hp7) hq) hr), s3.free hr, (((ts ++ [p5]) ++ [p6]) ++ [p7]), by simp, by simp [lF], Fnd.add (e := a7) (fs := []) 7 (by simp [lF]) (Fnd.add 6 (by simp [lF]) (Fnd.add 5 (lF) (fF.same (same_upd (same_upd (same_upd (same_upd (same_upd (same_upd (Same.refl H3) hp5) hp6) ha7) hp7) hq) hr)) (by simp [upd_same, upd_n1, upd_n2, *] <;> rfl) (y5.same (same_upd (same_upd (same_upd (same_upd (same_upd (same_upd (Same.refl H3) hp5) hp6) ha7) hp7) hq) hr)).ex) (by simp [upd_same, upd_n1, upd_n2, *] <;> rfl) (y6.same (same_upd (same_upd (same_upd (same_upd (same_upd (same_upd (Same.refl H3) hp5) hp6) ha7) hp7) hq) hr)).ex) (by simp [upd_same, upd_n1, upd_n2, *] <;> rfl) (.inl ⟨by simp [upd_same, upd_n1, upd_n2, *], rfl⟩)⟩
    rintro _ H3 ⟨e0, e1, e2, e3, e4, e5, e6, e8, F, ts, rfl, s3, tu3, tv3, y0, y1, y2, y3, y4, y5, y6, y8, nF, eF, lF, fF⟩
    -- _law_found.append((_law_many, 3, _law_many.count == _law_one))
    refine ⟨fun σ H3 => ∃ (e0 e1 e2 e3 e4 e5 e6 e8 : Addr) (F : Addr) (ts : List Addr), σ = [some (.ref b), some (.ref L), some u, some v, some (.ref e0), some (.ref e1), some (.ref e2), some (.ref e3), some (.ref e4), some (.ref e5), some (.ref e6), some (.ref e8), some (.ref F), none, none, none, none] ∧ Same H2 H3 ∧ Th H3 u ∧ Th H3 v ∧ XAt H3 e0 (cA K 0) [(("field" : Str), u)] ∧ XAt H3 e1 (cA K 1) [(("field" : Str), u)] ∧ XAt H3 e2 (cA K 2) [(("index" : Str), u)] ∧ XAt H3 e3 (cA K 3) [(("at" : Str), v), (("reason" : Str), u)] ∧ XAt H3 e4 (cA K 4) [(("name" : Str), u)] ∧ XAt H3 e5 (cA K 5) [(("index" : Str), u)] ∧ XAt H3 e6 (cA K 6) [(("warning" : Str), u)] ∧ XAt H3 e8 (cA K 8) [(("count" : Str), u)] ∧ H2 F = none ∧ H3 F = some (.lst (ts.map V.ref)) ∧ ts.length = 9 ∧ Fnd K H3 ts, ?_, ?_⟩
    · simp [tSeq, tAsg, gName, tIf, tTest, tB, tOp, tVar, tC, tCB, tCons, tNil, rI0, rI, tRet, tRetN, tLst, tTup, L2.start, tIfS, CMul, CPow, CDiv, cxOf, Cx.nox, tDrop, gSub, rSetL, tCall, tNext, tPar, tXNew, tXGet, tAndV, tOrV, tNotV, tXSet, tBM, tBM0, tyV_l, rAppend, rCat, upd_same, upd_none, sizeLine_eq, and_assoc, -Bool.exists_bool, spXa, spXb, spTake, tXF, rSame, tDisp, tPairs]
      refine ⟨tyV_l ⟨_, eF⟩, ?_⟩
      refine ⟨_, y8.same (Same.refl H3), _, rfl, rfl, tu3.same (Same.refl H3), ?_⟩
      intro p8 hp8
      refine ⟨_, (same_upd (Same.refl H3) hp8) _ _ eF, by simp [lF], ?_⟩
      have sG : ∀ o, Same H2 (upd (upd H3 p8 (.tup [.ref e8, .int (bs.getD 8 0), .bl true])) F o) := fun o => same_upd (s3.trans (same_upd (Same.refl H3) hp8)) nF
      have eG : upd H3 p8 (.tup [.ref e8, .int (bs.getD 8 0), .bl true]) F = some (.lst (ts.map V.ref)) := (same_upd (Same.refl H3) hp8) _ _ eF
      have fG : Fnd K (upd H3 p8 (.tup [.ref e8, .int (bs.getD 8 0), .bl true])) (ts ++ [p8]) := Fnd.add 8 lF (fF.same (same_upd (Same.refl H3) hp8)) upd_same (y8.same (same_upd (Same.refl H3) hp8)).ex
      exact ⟨sG _, tu.same (sG _), tv.same (sG _), (y0.same (same_upd (Same.refl H3) hp8)).over eG over_upd, (y1.same (same_upd (Same.refl H3) hp8)).over eG over_upd, (y2.same (same_upd (Same.refl H3) hp8)).over eG over_upd, (y3.same (same_upd (Same.refl H3) hp8)).over eG over_upd, (y4.same (same_upd (Same.refl H3) hp8)).over eG over_upd, (y5.same (same_upd (Same.refl H3) hp8)).over eG over_upd, (y6.same (same_upd (Same.refl H3) hp8)).over eG over_upd, (y8.same (same_upd (Same.refl H3) hp8)).over eG over_upd, nF, ts ++ [p8], by simp, by simp [lF], fG.over eG over_upd⟩
    rintro _ H3 ⟨e0, e1, e2, e3, e4, e5, e6, e8, F, ts, rfl, s3, tu3, tv3, y0, y1, y2, y3, y4, y5, y6, y8, nF, eF, lF, fF⟩
    -- _law_plan, _law_path = (BadPattern(_law_one), BadScript(_law_one, _law_other))
    refine ⟨fun σ H3 => ∃ (e0 e1 e2 e3 e4 e5 e6 e8 e9 e10 : Addr) (F : Addr) (ts : List Addr), σ = [some (.ref b), some (.ref L), some u, some v, some (.ref e0), some (.ref e1), some (.ref e2), some (.ref e3), some (.ref e4), some (.ref e5), some (.ref e6), some (.ref e8), some (.ref F), some (.ref e9), some (.ref e10), none, none] ∧ Same H2 H3 ∧ Th H3 u ∧ Th H3 v ∧ XAt H3 e0 (cA K 0) [(("field" : Str), u)] ∧ XAt H3 e1 (cA K 1) [(("field" : Str), u)] ∧ XAt H3 e2 (cA K 2) [(("index" : Str), u)] ∧ XAt H3 e3 (cA K 3) [(("at" : Str), v), (("reason" : Str), u)] ∧ XAt H3 e4 (cA K 4) [(("name" : Str), u)] ∧ XAt H3 e5 (cA K 5) [(("index" : Str), u)] ∧ XAt H3 e6 (cA K 6) [(("warning" : Str), u)] ∧ XAt H3 e8 (cA K 8) [(("count" : Str), u)] ∧ XAt H3 e9 (cA K 9) [(("index" : Str), u)] ∧ XAt H3 e10 (cA K 10) [(("step" : Str), v), (("task" : Str), u)] ∧ H2 F = none ∧ H3 F = some (.lst (ts.map V.ref)) ∧ ts.length = 9 ∧ Fnd K H3 ts, ?_, ?_⟩
    · simp [tSeq, tAsg, gName, tIf, tTest, tB, tOp, tVar, tC, tCB, tCons, tNil, rI0, rI, tRet, tRetN, tLst, tTup, L2.start, tIfS, CMul, CPow, CDiv, cxOf, Cx.nox, tDrop, gSub, rSetL, tCall, tNext, tPar, tXNew, tXGet, tAndV, tOrV, tNotV, tXSet, tBM, tBM0, tyV_l, rAppend, rCat, upd_same, upd_none, sizeLine_eq, and_assoc, -Bool.exists_bool, spXa, spXb, spTake, tXF, rSame, tDisp, tPairs]
      intro a1 n1 G1 o1 z1 a2 n2 G2 o2 z2
      have t1 := (o1.same n1).trans (o2.same n2)
      exact ⟨s3.trans t1, tu3.same t1, tv3.same t1, y0.same t1, y1.same t1, y2.same t1, y3.same t1, y4.same t1, y5.same t1, y6.same t1, y8.same t1, z1.same (o2.same n2), z2, nF, _, t1 _ _ eF, lF, fF.same t1⟩
    rintro _ H3 ⟨e0, e1, e2, e3, e4, e5, e6, e8, e9, e10, F, ts, rfl, s3, tu3, tv3, y0, y1, y2, y3, y4, y5, y6, y8, y9, y10, nF, eF, lF, fF⟩
    -- _law_step, _law_wide = (NoStep(_law_one, _law_other), TooWide(_law_one))
    refine ⟨fun σ H3 => ∃ (e0 e1 e2 e3 e4 e5 e6 e8 e9 e10 e13 e14 : Addr) (F : Addr) (ts : List Addr), σ = [some (.ref b), some (.ref L), some u, some v, some (.ref e0), some (.ref e1), some (.ref e2), some (.ref e3), some (.ref e4), some (.ref e5), some (.ref e6), some (.ref e8), some (.ref F), some (.ref e9), some (.ref e10), some (.ref e13), some (.ref e14)] ∧ Same H2 H3 ∧ Th H3 u ∧ Th H3 v ∧ XAt H3 e0 (cA K 0) [(("field" : Str), u)] ∧ XAt H3 e1 (cA K 1) [(("field" : Str), u)] ∧ XAt H3 e2 (cA K 2) [(("index" : Str), u)] ∧ XAt H3 e3 (cA K 3) [(("at" : Str), v), (("reason" : Str), u)] ∧ XAt H3 e4 (cA K 4) [(("name" : Str), u)] ∧ XAt H3 e5 (cA K 5) [(("index" : Str), u)] ∧ XAt H3 e6 (cA K 6) [(("warning" : Str), u)] ∧ XAt H3 e8 (cA K 8) [(("count" : Str), u)] ∧ XAt H3 e9 (cA K 9) [(("index" : Str), u)] ∧ XAt H3 e10 (cA K 10) [(("step" : Str), v), (("task" : Str), u)] ∧ XAt H3 e13 (cA K 13) [(("step" : Str), v), (("task" : Str), u)] ∧ XAt H3 e14 (cA K 14) [(("what" : Str), u)] ∧ H2 F = none ∧ H3 F = some (.lst (ts.map V.ref)) ∧ ts.length = 9 ∧ Fnd K H3 ts, ?_, ?_⟩
    · simp [tSeq, tAsg, gName, tIf, tTest, tB, tOp, tVar, tC, tCB, tCons, tNil, rI0, rI, tRet, tRetN, tLst, tTup, L2.start, tIfS, CMul, CPow, CDiv, cxOf, Cx.nox, tDrop, gSub, rSetL, tCall, tNext, tPar, tXNew, tXGet, tAndV, tOrV, tNotV, tXSet, tBM, tBM0, tyV_l, rAppend, rCat, upd_same, upd_none, sizeLine_eq, and_assoc, -Bool.exists_bool, spXa, spXb, spTake, tXF, rSame, tDisp, tPairs]
      intro a1 n1 G1 o1 z1 a2 n2 G2 o2 z2
      have t1 := (o1.same n1).trans (o2.same n2)
      exact ⟨s3.trans t1, tu3.same t1, tv3.same t1, y0.same t1, y1.same t1, y2.same t1, y3.same t1, y4.same t1, y5.same t1, y6.same t1, y8.same t1, y9.same t1, y10.same t1, z1.same (o2.same n2), z2, nF, _, t1 _ _ eF, lF, fF.same t1⟩
    rintro _ H3 ⟨e0, e1, e2, e3, e4, e5, e6, e8, e9, e10, e13, e14, F, ts, rfl, s3, tu3, tv3, y0, y1, y2, y3, y4, y5, y6, y8, y9, y10, y13, y14, nF, eF, lF, fF⟩
    -- _law_found = _law_found + [(_law_plan, 0, _law_plan.index == _law_one), (_law_path, 0, _law_path.task == _law_one and _law_path.step == _law_other)]
    refine ⟨fun σ H3 => ∃ (e0 e1 e2 e3 e4 e5 e6 e8 e9 e10 e13 e14 : Addr) (F : Addr) (ts : List Addr), σ = [some (.ref b), some (.ref L), some u, some v, some (.ref e0), some (.ref e1), some (.ref e2), some (.ref e3), some (.ref e4), some (.ref e5), some (.ref e6), some (.ref e8), some (.ref F), some (.ref e9), some (.ref e10), some (.ref e13), some (.ref e14)] ∧ Same H2 H3 ∧ Th H3 u ∧ Th H3 v ∧ XAt H3 e0 (cA K 0) [(("field" : Str), u)] ∧ XAt H3 e1 (cA K 1) [(("field" : Str), u)] ∧ XAt H3 e2 (cA K 2) [(("index" : Str), u)] ∧ XAt H3 e3 (cA K 3) [(("at" : Str), v), (("reason" : Str), u)] ∧ XAt H3 e4 (cA K 4) [(("name" : Str), u)] ∧ XAt H3 e5 (cA K 5) [(("index" : Str), u)] ∧ XAt H3 e6 (cA K 6) [(("warning" : Str), u)] ∧ XAt H3 e8 (cA K 8) [(("count" : Str), u)] ∧ XAt H3 e9 (cA K 9) [(("index" : Str), u)] ∧ XAt H3 e10 (cA K 10) [(("step" : Str), v), (("task" : Str), u)] ∧ XAt H3 e13 (cA K 13) [(("step" : Str), v), (("task" : Str), u)] ∧ XAt H3 e14 (cA K 14) [(("what" : Str), u)] ∧ H2 F = none ∧ H3 F = some (.lst (ts.map V.ref)) ∧ ts.length = 11 ∧ Fnd K H3 ts, ?_, ?_⟩
    · simp [tSeq, tAsg, gName, tIf, tTest, tB, tOp, tVar, tC, tCB, tCons, tNil, rI0, rI, tRet, tRetN, tLst, tTup, L2.start, tIfS, CMul, CPow, CDiv, cxOf, Cx.nox, tDrop, gSub, rSetL, tCall, tNext, tPar, tXNew, tXGet, tAndV, tOrV, tNotV, tXSet, tBM, tBM0, tyV_l, rAppend, rCat, upd_same, upd_none, sizeLine_eq, and_assoc, -Bool.exists_bool, spXa, spXb, spTake, tXF, rSame, tDisp, tPairs]
      refine ⟨_, y9.same (Same.refl H3), _, rfl, rfl, tu3.same (Same.refl H3), ?_⟩
      intro p9 hp9
      refine ⟨_, y10.same (same_upd (Same.refl H3) hp9), _, rfl, rfl, tu3.same (same_upd (Same.refl H3) hp9), ?_⟩
      refine ⟨_, y10.same (same_upd (Same.refl H3) hp9), _, rfl, rfl, tv3.same (same_upd (Same.refl H3) hp9), ?_⟩
      intro p10 dp10p9 hp10
      intro q dqp10 dqp9 hq
      refine ⟨_, (same_upd (same_upd (same_upd (Same.refl H3) hp9) hp10) hq) _ _ eF, by simp [lF], ?_⟩
      intro r drq drp10 drp9 hr
      exact ⟨s3.trans (same_upd (same_upd (same_upd (same_upd (Same.refl H3) hp9) hp10) hq) hr), tu3.same (same_upd (same_upd (same_upd (same_upd (Same.refl H3) hp9) hp10) hq) hr), tv3.same (same_upd (same_upd (same_upd (same_upd (Same.refl H3) hp9) hp10) hq) hr), y0.same (same_upd (same_upd (same_upd (same_upd (Same.refl H3) hp9) hp10) hq) hr), y1.same (same_upd (same_upd (same_upd (same_upd (Same.refl H3) hp9) hp10) hq) hr), y2.same (same_upd (same_upd (same_upd (same_upd (Same.refl H3) hp9) hp10) hq) hr), y3.same (same_upd (same_upd (same_upd (same_upd (Same.refl H3) hp9) hp10) hq) hr), y4.same (same_upd (same_upd (same_upd (same_upd (Same.refl H3) hp9) hp10) hq) hr), y5.same (same_upd (same_upd (same_upd (same_upd (Same.refl H3) hp9) hp10) hq) hr), y6.same (same_upd (same_upd (same_upd (same_upd (Same.refl H3) hp9) hp10) hq) hr), y8.same (same_upd (same_upd (same_upd (same_upd (Same.refl H3) hp9) hp10) hq) hr), y9.same (same_upd (same_upd (same_upd (same_upd (Same.refl H3) hp9) hp10) hq) hr), y10.same (same_upd (same_upd (same_upd (same_upd (Same.refl H3) hp9) hp10) hq) hr), y13.same (same_upd (same_upd (same_upd (same_upd (Same.refl H3) hp9) hp10) hq) hr), y14.same (same_upd (same_upd (same_upd (same_upd (Same.refl H3) hp9) hp10) hq) hr), s3.free hr, ((ts ++ [p9]) ++ [p10]), by simp, by simp [lF], Fnd.add 10 (by simp [lF]) (Fnd.add 9 (lF) (fF.same (same_upd (same_upd (same_upd (same_upd (Same.refl H3) hp9) hp10) hq) hr)) (by simp [upd_same, upd_n1, upd_n2, *] <;> rfl) (y9.same (same_upd (same_upd (same_upd (same_upd (Same.refl H3) hp9) hp10) hq) hr)).ex) (by simp [upd_same, upd_n1, upd_n2, *] <;> rfl) (y10.same (same_upd (same_upd (same_upd (same_upd (Same.refl H3) hp9) hp10) hq) hr)).ex⟩
    rintro _ H3 ⟨e0, e1, e2, e3, e4, e5, e6, e8, e9, e10, e13, e14, F, ts, rfl, s3, tu3, tv3, y0, y1, y2, y3, y4, y5, y6, y8, y9, y10, y13, y14, nF, eF, lF, fF⟩
    -- _law_found = _law_found + [(BadOrder(), 0, True), (BadOutcome(), 0, True)]
    refine ⟨fun σ H3 => ∃ (e0 e1 e2 e3 e4 e5 e6 e8 e9 e10 e13 e14 : Addr) (F : Addr) (ts : List Addr), σ = [some (.ref b), some (.ref L), some u, some v, some (.ref e0), some (.ref e1), some (.ref e2), some (.ref e3), some (.ref e4), some (.ref e5), some (.ref e6), some (.ref e8), some (.ref F), some (.ref e9), some (.ref e10), some (.ref e13), some (.ref e14)] ∧ Same H2 H3 ∧ Th H3 u ∧ Th H3 v ∧ XAt H3 e0 (cA K 0) [(("field" : Str), u)] ∧ XAt H3 e1 (cA K 1) [(("field" : Str), u)] ∧ XAt H3 e2 (cA K 2) [(("index" : Str), u)] ∧ XAt H3 e3 (cA K 3) [(("at" : Str), v), (("reason" : Str), u)] ∧ XAt H3 e4 (cA K 4) [(("name" : Str), u)] ∧ XAt H3 e5 (cA K 5) [(("index" : Str), u)] ∧ XAt H3 e6 (cA K 6) [(("warning" : Str), u)] ∧ XAt H3 e8 (cA K 8) [(("count" : Str), u)] ∧ XAt H3 e9 (cA K 9) [(("index" : Str), u)] ∧ XAt H3 e10 (cA K 10) [(("step" : Str), v), (("task" : Str), u)] ∧ XAt H3 e13 (cA K 13) [(("step" : Str), v), (("task" : Str), u)] ∧ XAt H3 e14 (cA K 14) [(("what" : Str), u)] ∧ H2 F = none ∧ H3 F = some (.lst (ts.map V.ref)) ∧ ts.length = 13 ∧ Fnd K H3 ts, ?_, ?_⟩
    · simp [tSeq, tAsg, gName, tIf, tTest, tB, tOp, tVar, tC, tCB, tCons, tNil, rI0, rI, tRet, tRetN, tLst, tTup, L2.start, tIfS, CMul, CPow, CDiv, cxOf, Cx.nox, tDrop, gSub, rSetL, tCall, tNext, tPar, tXNew, tXGet, tAndV, tOrV, tNotV, tXSet, tBM, tBM0, tyV_l, rAppend, rCat, upd_same, upd_none, sizeLine_eq, and_assoc, -Bool.exists_bool, spXa, spXb, spTake, tXF, rSame, tDisp, tPairs]
      intro a11 ha11
      intro p11 dp11a11 hp11
      intro a12 da12p11 da12a11 ha12
      intro p12 dp12a12 dp12p11 dp12a11 hp12
      intro q dqp12 dqa12 dqp11 dqa11 hq
      refine ⟨_, (same_upd (same_upd (same_upd (same_upd (same_upd (Same.refl H3) ha11) hp11) ha12) hp12) hq) _ _ eF, by simp [lF], ?_⟩
      intro r drq drp12 dra12 drp11 dra11 hr
      exact ⟨s3.trans (same_upd (same_upd (same_upd (same_upd (same_upd (same_upd (Same.refl H3) ha11) hp11) ha12) hp12) hq) hr), tu3.same (same_upd (same_upd (same_upd (same_upd (same_upd (same_upd (Same.refl H3) ha11) hp11) ha12) hp12) hq) hr), tv3.same (same_upd (same_upd (same_upd (same_upd (same_upd (same_upd (Same.refl H3) ha11) hp11) ha12) hp12) hq) hr), y0.same (same_upd (same_upd (same_upd (same_upd (same_upd (same_upd (Same.refl H3) ha11) hp11) ha12) hp12) hq) hr), y1.same (same_upd (same_upd (same_upd (same_upd (same_upd (same_upd (Same.refl H3) ha11) hp11) ha12) hp12) hq) hr), y2.same (same_upd (same_upd (same_upd (same_upd (same_upd (same_upd (Same.refl H3) ha11) hp11) ha12) hp12) hq) hr), y3.same (same_upd (same_upd (same_upd (same_upd (same_upd (same_upd (Same.refl H3) ha11) hp11) ha12) hp12) hq) hr), y4.same (same_upd (same_upd (same_upd (same_upd (same_upd (same_upd (Same.refl H3) ha11) hp11) ha12) hp12) hq) hr), y5.same (same_upd (same_upd (same_upd (same_upd (same_upd (same_upd (Same.refl H3) ha11) hp11) ha12) hp12) hq) hr), y6.same (same_upd (same_upd (same_upd (same_upd (same_upd (same_upd (Same.refl H3) ha11) hp11) ha12) hp12) hq) hr), y8.same (same_upd (same_upd (same_upd (same_upd (same_upd (same_upd (Same.refl H3) ha11) hp11) ha12) hp12) hq) hr), y9.same (same_upd (same_upd (same_upd (same_upd (same_upd (same_upd (Same.refl H3) ha11) hp11) ha12) hp12) hq) hr), y10.same (same_upd (same_upd (same_upd (same_upd (same_upd (same_upd (Same.refl H3) ha11) hp11) ha12) hp12) hq) hr), y13.same (same_upd (same_upd (same_upd (same_upd (same_upd (same_upd (Same.refl H3) ha11) hp11) ha12) hp12) hq) hr), y14.same (same_upd (same_upd (same_upd (same_upd (same_upd (same_upd (Same.refl H3) ha11) hp11) ha12) hp12) hq) hr), s3.free hr, ((ts ++ [p11]) ++ [p12]), by simp, by simp [lF], Fnd.add (e := a12) (fs := []) 12 (by simp [lF]) (Fnd.add (e := a11) (fs := []) 11 (lF) (fF.same (same_upd (same_upd (same_upd (same_upd (same_upd (same_upd (Same.refl H3) ha11) hp11) ha12) hp12) hq) hr)) (by simp [upd_same, upd_n1, upd_n2, *] <;> rfl) (.inl ⟨by simp [upd_same, upd_n1, upd_n2, *], rfl⟩)) (by simp [upd_same, upd_n1, upd_n2, *] <;> rfl) (.inl ⟨by simp [upd_same, upd_n1, upd_n2, *], rfl⟩)⟩
    rintro _ H3 ⟨e0, e1, e2, e3, e4, e5, e6, e8, e9, e10, e13, e14, F, ts, rfl, s3, tu3, tv3, y0, y1, y2, y3, y4, y5, y6, y8, y9, y10, y13, y14, nF, eF, lF, fF⟩
    -- _law_found.append((_law_step, 1, _law_step.task == _law_one and _law_step.step == _law_other))
    refine ⟨fun σ H3 => ∃ (e0 e1 e2 e3 e4 e5 e6 e8 e9 e10 e13 e14 : Addr) (F : Addr) (ts : List Addr), σ = [some (.ref b), some (.ref L), some u, some v, some (.ref e0), some (.ref e1), some (.ref e2), some (.ref e3), some (.ref e4), some (.ref e5), some (.ref e6), some (.ref e8), some (.ref F), some (.ref e9), some (.ref e10), some (.ref e13), some (.ref e14)] ∧ Same H2 H3 ∧ Th H3 u ∧ Th H3 v ∧ XAt H3 e0 (cA K 0) [(("field" : Str), u)] ∧ XAt H3 e1 (cA K 1) [(("field" : Str), u)] ∧ XAt H3 e2 (cA K 2) [(("index" : Str), u)] ∧ XAt H3 e3 (cA K 3) [(("at" : Str), v), (("reason" : Str), u)] ∧ XAt H3 e4 (cA K 4) [(("name" : Str), u)] ∧ XAt H3 e5 (cA K 5) [(("index" : Str), u)] ∧ XAt H3 e6 (cA K 6) [(("warning" : Str), u)] ∧ XAt H3 e8 (cA K 8) [(("count" : Str), u)] ∧ XAt H3 e9 (cA K 9) [(("index" : Str), u)] ∧ XAt H3 e10 (cA K 10) [(("step" : Str), v), (("task" : Str), u)] ∧ XAt H3 e13 (cA K 13) [(("step" : Str), v), (("task" : Str), u)] ∧ XAt H3 e14 (cA K 14) [(("what" : Str), u)] ∧ H2 F = none ∧ H3 F = some (.lst (ts.map V.ref)) ∧ ts.length = 14 ∧ Fnd K H3 ts, ?_, ?_⟩
    · simp [tSeq, tAsg, gName, tIf, tTest, tB, tOp, tVar, tC, tCB, tCons, tNil, rI0, rI, tRet, tRetN, tLst, tTup, L2.start, tIfS, CMul, CPow, CDiv, cxOf, Cx.nox, tDrop, gSub, rSetL, tCall, tNext, tPar, tXNew, tXGet, tAndV, tOrV, tNotV, tXSet, tBM, tBM0, tyV_l, rAppend, rCat, upd_same, upd_none, sizeLine_eq, and_assoc, -Bool.exists_bool, spXa, spXb, spTake, tXF, rSame, tDisp, tPairs]
      refine ⟨tyV_l ⟨_, eF⟩, ?_⟩
      refine ⟨_, y13.same (Same.refl H3), _, rfl, rfl, tu3.same (Same.refl H3), ?_⟩
      refine ⟨_, y13.same (Same.refl H3), _, rfl, rfl, tv3.same (Same.refl H3), ?_⟩
      intro p13 hp13
      refine ⟨_, (same_upd (Same.refl H3) hp13) _ _ eF, by simp [lF], ?_⟩
      have sG : ∀ o, Same H2 (upd (upd H3 p13 (.tup [.ref e13, .int (bs.getD 13 0), .bl true])) F o) := fun o => same_upd (s3.trans (same_upd (Same.refl H3) hp13)) nF
      have eG : upd H3 p13 (.tup [.ref e13, .int (bs.getD 13 0), .bl true]) F = some (.lst (ts.map V.ref)) := (same_upd (Same.refl H3) hp13) _ _ eF
      have fG : Fnd K (upd H3 p13 (.tup [.ref e13, .int (bs.getD 13 0), .bl true])) (ts ++ [p13]) := Fnd.add 13 lF (fF.same (same_upd (Same.refl H3) hp13)) upd_same (y13.same (same_upd (Same.refl H3) hp13)).ex
      exact ⟨sG _, tu.same (sG _), tv.same (sG _), (y0.same (same_upd (Same.refl H3) hp13)).over eG over_upd, (y1.same (same_upd (Same.refl H3) hp13)).over eG over_upd, (y2.same (same_upd (Same.refl H3) hp13)).over eG over_upd, (y3.same (same_upd (Same.refl H3) hp13)).over eG over_upd, (y4.same (same_upd (Same.refl H3) hp13)).over eG over_upd, (y5.same (same_upd (Same.refl H3) hp13)).over eG over_upd, (y6.same (same_upd (Same.refl H3) hp13)).over eG over_upd, (y8.same (same_upd (Same.refl H3) hp13)).over eG over_upd, (y9.same (same_upd (Same.refl H3) hp13)).over eG over_upd, (y10.same (same_upd (Same.refl H3) hp13)).over eG over_upd, (y13.same (same_upd (Same.refl H3) hp13)).over eG over_upd, (y14.same (same_upd (Same.refl H3) hp13)).over eG over_upd, nF, ts ++ [p13], by simp, by simp [lF], fG.over eG over_upd⟩
    rintro _ H3 ⟨e0, e1, e2, e3, e4, e5, e6, e8, e9, e10, e13, e14, F, ts, rfl, s3, tu3, tv3, y0, y1, y2, y3, y4, y5, y6, y8, y9, y10, y13, y14, nF, eF, lF, fF⟩
    simp [tSeq, tAsg, gName, tIf, tTest, tB, tOp, tVar, tC, tCB, tCons, tNil, rI0, rI, tRet, tRetN, tLst, tTup, L2.start, tIfS, CMul, CPow, CDiv, cxOf, Cx.nox, tDrop, gSub, rSetL, tCall, tNext, tPar, tXNew, tXGet, tAndV, tOrV, tNotV, tXSet, tBM, tBM0, tyV_l, rAppend, rCat, upd_same, upd_none, sizeLine_eq, and_assoc, -Bool.exists_bool, spXa, spXb, spTake, tXF, rSame, tDisp, tPairs]
    refine ⟨_, y14, _, rfl, rfl, tu3, ?_⟩
    intro p hp q dq hq
    refine ⟨_, (same_upd (same_upd (Same.refl H3) hp) hq) _ _ eF, by simp [lF], fun r dr1 dr2 hr => ?_⟩
    refine k _ r (ts ++ [p]) (ov (s3.trans (same_upd (same_upd (same_upd (Same.refl H3) hp) hq) hr))) (by simp [lF]) (Fnd.add 14 lF (fF.same (same_upd (same_upd (same_upd (Same.refl H3) hp) hq) hr)) (by simp [upd_same, upd_n1, upd_n2, *] <;> rfl) (y14.same (same_upd (same_upd (same_upd (Same.refl H3) hp) hq) hr)).ex) (by simp [upd_same])

end
end K76
set_option Elab.async false
set_option linter.all false
set_option maxRecDepth 100000
set_option maxHeartbeats 4000000
namespace K76
open PySem L2
section
variable {P : Program} {w : World} {K : PySem.W.Frag} {mg : Str → Option Value} {base : Heap}

abbrev sLaw : Stmt := (top 21)
theorem scLaw : FnScope ["_law_script", "_law_k", "_law_bag_here", "_law_at", "_law_e", "_law_base", "_law_right", "_law_due", "_law_one"] ["_law_script"] (defScope sLaw) := ⟨rfl, rfl, rfl, by decide +kernel, rfl, by decide +kernel, by decide +kernel⟩


def spLaw (K : PySem.W.Frag) : Sp := fun vs H Q _ => ∃ (a : Addr) (ns : List Int), vs = [.ref a] ∧ SqL K H a (ns.map V.int) ∧ ns.length ≤ 63 ∧ ∀ H', Q (.bl true) H'
def fB (j : Nat) : List Bool := [decide (bs.getD j 0 = 0), decide (bs.getD j 0 = 1), decide (bs.getD j 0 = 2), decide (bs.getD j 0 = 3)]
def mB (j : Nat) : List Bool := (List.range 15).map fun (z : Nat) => decide (j = z)
def due (j : Nat) : PySem.PyData := .tuple [.list ((fB j).map .bool), .bool false, .list ((mB j).map .bool)]
theorem dpB {K : PySem.W.Frag} {H : Hp} : ∀ l : List Bool, DpAll K H (l.map V.bl) (l.map PySem.PyData.bool)
  | [] => .nil
  | b :: l => .cons (.bl b) (dpB l)
theorem marks_map (j : Nat) : (mB j).map V.bl = marks j := by
  unfold mB marks
  rw [List.map_map]
  rfl
theorem flags_eq (j : Nat) : (fB j).map V.bl = (List.range 4).map fun (z : Nat) => V.bl (decide (bs.getD j 0 = (z : Int))) := rfl
theorem marks_eq (j : Nat) : (mB j).map V.bl = (List.range 15).map fun (z : Nat) => V.bl (decide (((j : Nat) : Int) = (z : Int))) := by
  unfold mB
  rw [List.map_map]
  refine List.map_congr_left fun z _ => congrArg V.bl (decide_eq_decide.mpr ⟨fun h => by rw [h], fun h => Int.ofNat_inj.mp h⟩)
theorem ok_law {f : Addr} {fd : FuncData} (F : FnP K "law" "law" sLaw f fd) (T : Bt mg) (cB : Cl P w K mg base CX0 1 "_law_bag" ["_law_script", "_law_at"] (spBag K)) (cM : Cl P w K mg base CX0 3 "_law_made" ["_law_bag_here"] (spMade K))
    (cK : Cl P w K mg base CX0 1 "_law_kinds" ["_law_e"] (spKinds K)) : FnOk P w K mg base CX0 4 f fd ["_law_script"] (spLaw K) := by
  refine F.ok scLaw (fun vs H Q E h => ?_) (fun cdv A outer s H vs Q E hr h => ?_)
  · obtain ⟨a, ns, rfl, _⟩ := h
    rfl
  · obtain ⟨a, ns, rfl, hS, hl, k⟩ := h
    refine ⟨_, PSs.nox ((pss_cons (ps_for PassesOwn.never rfl (pi_range1 rfl T.range (pa_cons (pe_op op_add pe_int (pe_callB (call_min2 rfl) (by rfl) T.min (by decide +kernel) (pa_cons pe_int (pa_cons (pe_callB w_len (by rfl) T.len boot_len (pa_cons (pv 0) pa_nil)) pa_nil)))) pa_nil)) (pg_name (i := 1) scLaw.nd rfl (Or.inl rfl))
    (pss_cons (ps_set (i := 2) scLaw.nd rfl (Or.inl rfl) (pe_cl cB hr (by decide) rfl (pa_cons (pv 0) (pa_cons (pv 1) pa_nil))))
    (pss_one (ps_for PassesOwn.never rfl (pi_enum (by rfl) T.enumerate (pa_cons (pe_cl cM hr (by decide) rfl (pa_cons (pv 2) pa_nil)) pa_nil)) (pg_tup (n := 2) rfl (pgs_cons (pg_name (i := 3) scLaw.nd rfl (Or.inr rfl)) (pgs_cons (pg_tup (n := 3) rfl (pgs_cons (pg_name (i := 4) scLaw.nd rfl (Or.inl rfl)) (pgs_cons (pg_name (i := 5) scLaw.nd rfl (Or.inr rfl)) (pgs_cons (pg_name (i := 6) scLaw.nd rfl (Or.inl rfl)) pgs_nil)))) pgs_nil)))
    (pss_cons (ps_set (i := 7) scLaw.nd rfl (Or.inl rfl) (pe_tup (pa_cons (pe_lc (own := [("_law_one", 8)]) (g := gName 8) (by rfl) scLaw.nd (pi_range1 rfl T.range (pa_cons pe_int pa_nil)) (blkOk_by (own := [("_law_one", 8)]) (N := ["_law_script", "_law_k", "_law_bag_here", "_law_at", "_law_e", "_law_base", "_law_right", "_law_due", "_law_one"]) (sc := defScope sLaw) (by decide +kernel)) (fun _ _ _ _ _ => (pg_name (i := 8) scLaw.nd rfl (Or.inl rfl))) (fun _ _ _ _ _ => pts_nil) (fun _ _ _ _ _ => (pe_cmpR op_eq (pv 5) (pv 8) (nomark _)))) (pa_cons pe_bl (pa_cons (pe_lc (own := [("_law_one", 8)]) (g := gName 8) (by rfl) scLaw.nd (pi_range1 rfl T.range (pa_cons pe_int pa_nil)) (blkOk_by (own := [("_law_one", 8)]) (N := ["_law_script", "_law_k", "_law_bag_here", "_law_at", "_law_e", "_law_base", "_law_right", "_law_due", "_law_one"]) (sc := defScope sLaw) (by decide +kernel)) (fun _ _ _ _ _ => (pg_name (i := 8) scLaw.nd rfl (Or.inl rfl))) (fun _ _ _ _ _ => pts_nil) (fun _ _ _ _ _ => (pe_cmpR op_eq (pv 3) (pv 8) (nomark _)))) pa_nil)))))
    (pss_one (ps_if (PW.pt (pw_or (pt_not (pt_val (pv 6))) (pw_or1 (pt_cmpR (op_neD hr.units) (pe_cl cK hr (by decide) rfl (pa_cons (pv 4) pa_nil)) (pv 7) (nomark _))))) (pss_one (ps_ret pe_bl)) pss_nil)))))))
    (pss_one (ps_ret pe_bl)))), ?_⟩
    refine ⟨_, rfl, _, _, rfl, hS, _, _, rfl, _, _, rfl, rfl, _, rfl, (by split <;> omega), (by split <;> omega), for_range (fun i σ H' => ∃ v1 v2 v3 v4 v5 v6 v7 v8 : Option V, σ = [some (.ref a), v1, v2, v3, v4, v5, v6, v7, v8] ∧ SqL K H' a (ns.map V.int)) ⟨none, none, none, none, none, none, none, none, rfl, hS⟩ ?_ (fun σ H' _ => k H')⟩
    rintro i σ H1 hi ⟨v1, v2, v3, v4, v5, v6, v7, v8, rfl, hs1⟩
    have hi4 : (i : Int) ≤ 4 := by
      have : i < 4 := Nat.lt_of_lt_of_le hi (by split <;> omega)
      omega
    -- the bag
    refine ⟨_, rfl, _, rfl, a, ns, _, rfl, hs1, by omega, by omega, fun b g x g0 x0 x1 hb => ?_⟩
    -- for .. in enumerate(_law_made(bag))
    refine ⟨_, rfl, b, rfl, ⟨g, x, 0, upd_same, g0, x0, x1, by omega, by omega⟩, fun H2 q ts ov lt fn eq => ⟨q, _, rfl, .of eq, ?_⟩⟩
    have hs2 : SqL K H2 a (ns.map V.int) := Same.seq (Over.same ov hb) hs1
    refine for_enum (xs := ts.map V.ref) (fun j σ H' => ∃ v3 v4 v5 v6 v7 v8 : Option V, σ = [some (.ref a), some (.int (0 + (i : Int))), some (.ref b), v3, v4, v5, v6, v7, v8] ∧ SqL K H' a (ns.map V.int) ∧ H' q = some (.lst (ts.map V.ref)) ∧ Fnd K H' ts)
      ⟨v3, v4, v5, v6, v7, v8, rfl, hs2, eq, fn⟩ (fun j σ H' _ ⟨_, _, _, _, _, _, _, _, e, _⟩ => .of e) ?_ ?_
    · rintro j y σ H3 T hy ⟨w3, w4, w5, w6, w7, w8, rfl, hs3, eq3, fn3⟩ hT
      obtain ⟨t, ht, rfl⟩ : ∃ t, ts[j]? = some t ∧ y = V.ref t := by
        rw [List.getElem?_map] at hy
        cases e : ts[j]? with
        | none =>
          rw [e] at hy
          cases hy
        | some t =>
          rw [e] at hy
          exact ⟨t, rfl, (Option.some.inj hy).symm⟩
      have hj : j < 15 := lt ▸ (List.getElem?_eq_some_iff.mp ht).1
      obtain ⟨e, fs, h1, xe⟩ := fn3 j t ht
      refine ⟨T, _, rfl, .of upd_same, rfl, _, _, rfl, _, _, rfl, t, _, rfl, .of (by rw [upd_ne (ne_of_none h1 hT)]; exact h1), rfl, _, _, rfl, _, _, rfl, _, _, rfl, rfl, rfl, ?_⟩
      have sT : Same H3 (upd H3 T (.tup [.int (j : Nat), .ref t])) := same_new hT
      generalize hG : upd H3 T (.tup [.int (j : Nat), .ref t]) = G at sT
      have xG := xe.same sT
      -- the two lists of the due value
      refine ⟨4, rfl, by decide, by decide, fun D hD => lc_range (lo := 0) (n := 4) (fun m H' => Same G H' ∧ H' D = some (.lst ((List.range m).map fun (z : Nat) => V.bl (decide (bs.getD j 0 = (z : Int)))))) ⟨same_new hD, upd_same⟩ ?_ ?_⟩
      · rintro m H4 hm ⟨s4, e4⟩
        refine ⟨rfl, ?_⟩
        dsimp only [tYes]
        rw [if_pos rfl]
        refine ⟨_, rfl, _, rfl, rfl, _, e4, by rw [sizeLine_eq]; simp; omega, same_upd s4 hD, ?_⟩
        rw [upd_same]
        simp [List.range_succ]
      rintro H4 ⟨s4, e4⟩
      refine ⟨15, rfl, by decide, by decide, fun D2 hD2 => lc_range (lo := 0) (n := 15) (fun m H' => Same H4 H' ∧ H' D2 = some (.lst ((List.range m).map fun (z : Nat) => V.bl (decide (((j : Nat) : Int) = (z : Int)))))) ⟨same_new hD2, upd_same⟩ ?_ ?_⟩
      · rintro m H5 hm ⟨s5, e5⟩
        refine ⟨rfl, ?_⟩
        dsimp only [tYes]
        rw [if_pos rfl]
        refine ⟨_, rfl, _, rfl, rfl, _, e5, by rw [sizeLine_eq]; simp; omega, same_upd s5 hD2, ?_⟩
        rw [upd_same]
        simp [List.range_succ]
      rintro H5 ⟨s5, e5⟩
      refine ⟨three_ok, fun U hU => ?_⟩
      have s6 : Same G (upd H5 U (.tup [.ref D, .bl false, .ref D2])) := same_upd (s4.trans s5) (Same.free (s4.trans s5) hU)
      generalize hG6 : upd H5 U (.tup [.ref D, .bl false, .ref D2]) = G6 at s6
      have eU : G6 U = some (.tup [.ref D, .bl false, .ref D2]) := by rw [← hG6, upd_same]
      have eD : G6 D = some (.lst ((List.range 4).map fun (z : Nat) => V.bl (decide (bs.getD j 0 = (z : Int))))) := by
        rw [← hG6, upd_ne (ne_of_none (s5 _ _ e4) hU)]
        exact s5 _ _ e4
      have eD2 : G6 D2 = some (.lst ((List.range 15).map fun (z : Nat) => V.bl (decide (((j : Nat) : Int) = (z : Int))))) := by
        rw [← hG6, upd_ne (ne_of_none e5 hU)]
        exact e5
      -- if not right or kinds(e) != due
      refine ⟨_, rfl, _, rfl, iteF ?_⟩
      refine ⟨_, rfl, e, j, fs, rfl, hj, xG.same s6, fun H7 l1 l2 R s7 f1 f2 f3 => ⟨_, rfl, ?_⟩⟩
      have d1 : Dp K H7 (.ref R) (due j) := .tup (.of f3) (.cons (.lst (.of f1) (dpB (fB j))) (.cons (.bl _) (.cons (.lst (.of f2) (marks_map j ▸ dpB _)) .nil)))
      have d2 : Dp K H7 (.ref U) (due j) := .tup (.of (s7 _ _ eU)) (.cons (.lst (.of (s7 _ _ eD)) (flags_eq j ▸ dpB _)) (.cons (.bl _) (.cons (.lst (.of (s7 _ _ eD2)) (marks_eq j ▸ dpB _)) .nil)))
      refine ⟨_, _, d1, d2, rfl, rfl, _, rfl, ?_⟩
      rw [SeqAt.eqv_refl _ rfl]
      refine iteF ?_
      have sA : Same H3 H7 := sT.trans (s6.trans s7)
      exact ⟨_, _, _, _, _, _, rfl, sA.seq hs3, sA _ _ eq3, fn3.same sA⟩
    · rintro σ H3 ⟨w3, w4, w5, w6, w7, w8, rfl, hs3, _⟩
      exact ⟨_, _, w3, w4, w5, w6, w7, w8, rfl, hs3⟩

end
end K76
set_option Elab.async false
set_option linter.all false
set_option maxRecDepth 100000
set_option maxHeartbeats 0
namespace K76
open PySem PySem.Spec PyProof.Rows L2
abbrev R : PySem.W.OpenRow := PySem.W.OpenLaw.row PySem.Challenge.rw_warnfilters_k76_exceptions_and_their_bas

def dBag : He.DefD := ⟨("_law_bag", none), "_law_bag", "_law_bag", defArgs sBag, defBody sBag, defScope sBag, [], []⟩
def dTake : He.DefD := ⟨("_law_take", none), "_law_take", "_law_take", defArgs sTake, defBody sTake, defScope sTake, [], []⟩
def dMade : He.DefD := ⟨("_law_made", none), "_law_made", "_law_made", defArgs sMade, defBody sMade, defScope sMade, [], []⟩
def dKinds : He.DefD := ⟨("_law_kinds", none), "_law_kinds", "_law_kinds", defArgs sKinds, defBody sKinds, defScope sKinds, [], []⟩
def dLaw : He.DefD := ⟨("law", none), "law", "law", defArgs sLaw, defBody sLaw, defScope sLaw, [], []⟩
def dIBadWarning : He.DefD := ⟨("BadWarning", some "__init__"), "__init__", "BadWarning.__init__", defArgs sIBadWarning, defBody sIBadWarning, defScope sIBadWarning, [], []⟩
def dIBadFilter : He.DefD := ⟨("BadFilter", some "__init__"), "__init__", "BadFilter.__init__", defArgs sIBadFilter, defBody sIBadFilter, defScope sIBadFilter, [], []⟩
def dIBadTable : He.DefD := ⟨("BadTable", some "__init__"), "__init__", "BadTable.__init__", defArgs sIBadTable, defBody sIBadTable, defScope sIBadTable, [], []⟩
def dIBadOption : He.DefD := ⟨("BadOption", some "__init__"), "__init__", "BadOption.__init__", defArgs sIBadOption, defBody sIBadOption, defScope sIBadOption, [], []⟩
def dINoCategory : He.DefD := ⟨("NoCategory", some "__init__"), "__init__", "NoCategory.__init__", defArgs sINoCategory, defBody sINoCategory, defScope sINoCategory, [], []⟩
def dINoFilter : He.DefD := ⟨("NoFilter", some "__init__"), "__init__", "NoFilter.__init__", defArgs sINoFilter, defBody sINoFilter, defScope sINoFilter, [], []⟩
def dIRaised : He.DefD := ⟨("Raised", some "__init__"), "__init__", "Raised.__init__", defArgs sIRaised, defBody sIRaised, defScope sIRaised, [], []⟩
def dITooMany : He.DefD := ⟨("TooMany", some "__init__"), "__init__", "TooMany.__init__", defArgs sITooMany, defBody sITooMany, defScope sITooMany, [], []⟩
def dIBadPattern : He.DefD := ⟨("BadPattern", some "__init__"), "__init__", "BadPattern.__init__", defArgs sIBadPattern, defBody sIBadPattern, defScope sIBadPattern, [], []⟩
def dIBadScript : He.DefD := ⟨("BadScript", some "__init__"), "__init__", "BadScript.__init__", defArgs sIBadScript, defBody sIBadScript, defScope sIBadScript, [], []⟩
def dINoStep : He.DefD := ⟨("NoStep", some "__init__"), "__init__", "NoStep.__init__", defArgs sINoStep, defBody sINoStep, defScope sINoStep, [], []⟩
def dITooWide : He.DefD := ⟨("TooWide", some "__init__"), "__init__", "TooWide.__init__", defArgs sITooWide, defBody sITooWide, defScope sITooWide, [], []⟩
def fn : List He.DefD := [dBag, dTake, dMade, dKinds, dLaw, dIBadWarning, dIBadFilter, dIBadTable, dIBadOption, dINoCategory, dINoFilter, dIRaised, dITooMany, dIBadPattern, dIBadScript, dINoStep, dITooWide]
def fa : List He.Fa := [.glo "_law_bag", .glo "_law_take", .glo "_law_made", .glo "_law_kinds", .glo "law", .glo "BadWarning", .glo "BadFilter", .glo "BadTable", .glo "BadOption", .glo "NoCategory", .glo "NoFilter", .glo "Raised", .glo "NoBlock", .glo "TooMany", .glo "BadPattern", .glo "BadScript", .glo "BadOrder", .glo "BadOutcome", .glo "NoStep", .glo "TooWide", .free "len", .free "abs", .free "int", .free "min", .free "range", .free "enumerate", .free "isinstance", .free "ValueError", .free "LookupError", .free "RuntimeError", .free "OverflowError", .free "KeyError", .free "IndexError", .free "NotImplementedError", .free "ZeroDivisionError", .meth "BadWarning" "__init__", .meth "BadFilter" "__init__", .meth "BadTable" "__init__", .meth "BadOption" "__init__", .meth "NoCategory" "__init__", .meth "NoFilter" "__init__", .meth "Raised" "__init__", .meth "TooMany" "__init__", .meth "BadPattern" "__init__", .meth "BadScript" "__init__", .meth "NoStep" "__init__", .meth "TooWide" "__init__", .noat "BadWarning" "field", .noat "BadFilter" "field", .noat "BadTable" "index", .noat "BadOption" "reason", .noat "BadOption" "at", .noat "NoCategory" "name", .noat "NoFilter" "index", .noat "Raised" "warning", .noat "TooMany" "count", .noat "BadPattern" "index", .noat "BadScript" "task", .noat "BadScript" "step", .noat "NoStep" "task", .noat "NoStep" "step", .noat "TooWide" "what"]
def cB1 (K : PySem.W.Frag) : Bool := obB K && (xbB K (cA K 0) [.type "ValueError", .type "Exception", .type "BaseException", .type "object"] "ValueError.__new__" && (xbB K (cA K 1) [.type "ValueError", .type "Exception", .type "BaseException", .type "object"] "ValueError.__new__" && (xbB K (cA K 2) [.type "ValueError", .type "Exception", .type "BaseException", .type "object"] "ValueError.__new__" && (xbB K (cA K 3) [.type "ValueError", .type "Exception", .type "BaseException", .type "object"] "ValueError.__new__" && (xbB K (cA K 4) [.type "LookupError", .type "Exception", .type "BaseException", .type "object"] "LookupError.__new__" && (xbB K (cA K 5) [.type "LookupError", .type "Exception", .type "BaseException", .type "object"] "LookupError.__new__" && (xbB K (cA K 6) [.type "RuntimeError", .type "Exception", .type "BaseException", .type "object"] "RuntimeError.__new__" && (xbB K (cA K 7) [.type "RuntimeError", .type "Exception", .type "BaseException", .type "object"] "RuntimeError.__new__" && (xbB K (cA K 8) [.type "OverflowError", .type "ArithmeticError", .type "Exception", .type "BaseException", .type "object"] "OverflowError.__new__" && (xbB K (cA K 9) [.type "ValueError", .type "Exception", .type "BaseException", .type "object"] "ValueError.__new__" && (xbB K (cA K 10) [.type "ValueError", .type "Exception", .type "BaseException", .type "object"] "ValueError.__new__" && (xbB K (cA K 11) [.type "ValueError", .type "Exception", .type "BaseException", .type "object"] "ValueError.__new__" && (xbB K (cA K 12) [.type "ValueError", .type "Exception", .type "BaseException", .type "object"] "ValueError.__new__" && (xbB K (cA K 13) [.type "LookupError", .type "Exception", .type "BaseException", .type "object"] "LookupError.__new__" && (xbB K (cA K 14) [.type "OverflowError", .type "ArithmeticError", .type "Exception", .type "BaseException", .type "object"] "OverflowError.__new__" && (PySem.W.excIn K (cA K 7) [.type "RuntimeError", .type "Exception", .type "BaseException", .type "object"] "RuntimeError.__new__" && (PySem.W.excIn K (cA K 11) [.type "ValueError", .type "Exception", .type "BaseException", .type "object"] "ValueError.__new__" && (PySem.W.excIn K (cA K 12) [.type "ValueError", .type "Exception", .type "BaseException", .type "object"] "ValueError.__new__"))))))))))))))))))
def cB2 (K : PySem.W.Frag) : Bool := (List.range 15).all fun i => decide (isV K (cA K i) (.ty "ValueError") = some (decide (bs.getD i 0 = 0))) && (decide (isV K (cA K i) (.ty "LookupError") = some (decide (bs.getD i 0 = 1))) && (decide (isV K (cA K i) (.ty "RuntimeError") = some (decide (bs.getD i 0 = 2))) &&
  (decide (isV K (cA K i) (.ty "OverflowError") = some (decide (bs.getD i 0 = 3))) && (decide (isVs K (cA K i) [.ty "KeyError", .ty "IndexError", .ty "NotImplementedError", .ty "ZeroDivisionError"] = some false) && (List.range 15).all fun j => decide (isV K (cA K i) (.ref (cA K j)) = some (decide (i = j)))))))
def ex (K : PySem.W.Frag) : Bool := cB1 K && cB2 K
abbrev hk : PySem.W.Hook := He.hookX 6 fa fn [] [] ex
def ob (s : PySem.W.SharedT) : He.AlX := He.obsX 6 fa fn [] [] ex (HandSHeadRun.getT s)
theorem ob_eq (s : PySem.W.SharedT) : ob s = hk.obs s.abs := He.obsX_eq (HandSHeadRun.getT_eq s)

def names : List Str := ["BadFilter", "BadWarning", "BadOption", "BadTable", "BadScript", "BadOrder", "BadOutcome", "NoStep", "BadPattern", "NoCategory", "NoFilter", "Raised", "NoBlock", "TooMany", "TooWide", "_law_bag", "_law_take", "_law_made", "_law_kinds"]
theorem run (w : World) : HandSHeadRun.RunEq R (PySem.W.view R.prog [21]) hk ob 5000 names w := by
  intro os
  kernel_rfl

theorem facts {P : Program} {w : World} {K : PySem.W.Frag} {h : Heap} {mg : Str → Option Value} {f : Addr} (X : K.In h) (G : h.Ns mainGlobals mg) (hfa : mg ("law" : Str) = some (.ref f)) (c : He.SaysX fa fn [] [] ex w h K) :
    ∃ fd : FuncData, (∀ (s : Shared) (v : Value), BindsTo s fd ⟨[v], []⟩ [("_law_script", v)]) ∧ ∀ base : Heap, K.In base → base.Ns mainGlobals mg → FnOk P w K mg base CX0 4 f fd ["_law_script"] (spLaw K) := by
  obtain ⟨fdBag, FBag⟩ := c.t.d.def_ 0 (d := dBag) rfl
  obtain ⟨fdTake, FTake⟩ := c.t.d.def_ 1 (d := dTake) rfl
  obtain ⟨fdMade, FMade⟩ := c.t.d.def_ 2 (d := dMade) rfl
  obtain ⟨fdKinds, FKinds⟩ := c.t.d.def_ 3 (d := dKinds) rfl
  obtain ⟨fdLaw, FLaw⟩ := c.t.d.def_ 4 (d := dLaw) rfl
  obtain ⟨fdIBadWarning, FIBadWarning⟩ := c.t.d.def_ 5 (d := dIBadWarning) rfl
  obtain ⟨fdIBadFilter, FIBadFilter⟩ := c.t.d.def_ 6 (d := dIBadFilter) rfl
  obtain ⟨fdIBadTable, FIBadTable⟩ := c.t.d.def_ 7 (d := dIBadTable) rfl
  obtain ⟨fdIBadOption, FIBadOption⟩ := c.t.d.def_ 8 (d := dIBadOption) rfl
  obtain ⟨fdINoCategory, FINoCategory⟩ := c.t.d.def_ 9 (d := dINoCategory) rfl
  obtain ⟨fdINoFilter, FINoFilter⟩ := c.t.d.def_ 10 (d := dINoFilter) rfl
  obtain ⟨fdIRaised, FIRaised⟩ := c.t.d.def_ 11 (d := dIRaised) rfl
  obtain ⟨fdITooMany, FITooMany⟩ := c.t.d.def_ 12 (d := dITooMany) rfl
  obtain ⟨fdIBadPattern, FIBadPattern⟩ := c.t.d.def_ 13 (d := dIBadPattern) rfl
  obtain ⟨fdIBadScript, FIBadScript⟩ := c.t.d.def_ 14 (d := dIBadScript) rfl
  obtain ⟨fdINoStep, FINoStep⟩ := c.t.d.def_ 15 (d := dINoStep) rfl
  obtain ⟨fdITooWide, FITooWide⟩ := c.t.d.def_ 16 (d := dITooWide) rfl
  have e := hfa.symm.trans (He.glo_ok X G (c.t.d.fact 4 (f := .glo "law") rfl))
  cases e
  have gBag := He.glo_ok X G (c.t.d.fact 0 (f := .glo "_law_bag") rfl)
  have gTake := He.glo_ok X G (c.t.d.fact 1 (f := .glo "_law_take") rfl)
  have gMade := He.glo_ok X G (c.t.d.fact 2 (f := .glo "_law_made") rfl)
  have gKinds := He.glo_ok X G (c.t.d.fact 3 (f := .glo "_law_kinds") rfl)
  have T : Bt mg := ⟨He.free_ok X G (c.t.d.fact 20 (f := .free "len") rfl), He.free_ok X G (c.t.d.fact 21 (f := .free "abs") rfl), He.free_ok X G (c.t.d.fact 22 (f := .free "int") rfl), He.free_ok X G (c.t.d.fact 23 (f := .free "min") rfl), He.free_ok X G (c.t.d.fact 24 (f := .free "range") rfl), He.free_ok X G (c.t.d.fact 25 (f := .free "enumerate") rfl), He.free_ok X G (c.t.d.fact 26 (f := .free "isinstance") rfl), He.free_ok X G (c.t.d.fact 27 (f := .free "ValueError") rfl), He.free_ok X G (c.t.d.fact 28 (f := .free "LookupError") rfl), He.free_ok X G (c.t.d.fact 29 (f := .free "RuntimeError") rfl), He.free_ok X G (c.t.d.fact 30 (f := .free "OverflowError") rfl), He.free_ok X G (c.t.d.fact 31 (f := .free "KeyError") rfl), He.free_ok X G (c.t.d.fact 32 (f := .free "IndexError") rfl), He.free_ok X G (c.t.d.fact 33 (f := .free "NotImplementedError") rfl), He.free_ok X G (c.t.d.fact 34 (f := .free "ZeroDivisionError") rfl)⟩
  have cc := c.more
  obtain ⟨c1, c2⟩ := Bool.and_eq_true_iff.mp (show (cB1 K && cB2 K) = true from cc)
  unfold cB1 at c1
  simp only [Bool.and_eq_true] at c1
  obtain ⟨o, b0, b1, b2, b3, b4, b5, b6, b7, b8, b9, b10, b11, b12, b13, b14, z7, z11, z12⟩ := c1
  have X0 : XB K (cA K 0) "ValueError" "ValueError.__new__" "ValueError.__init__" [.type "ValueError", .type "Exception", .type "BaseException", .type "object"] := xbB_ok PySem.F.excBase_ValueError PySem.F.store_ValueError b0
  have G0 : mg "BadWarning" = some (.ref (cA K 0)) := He.glo_ok X G (c.t.d.fact 5 (f := .glo "BadWarning") rfl)
  have N0_field : PySem.W.findIn K (.ref (cA K 0)) "field" = some none := He.noat_ok (c.t.d.fact 47 (f := .noat "BadWarning" "field") rfl)
  have M0 := He.meth_ok (c.t.d.fact 35 (f := .meth "BadWarning" "__init__") rfl)
  have X1 : XB K (cA K 1) "ValueError" "ValueError.__new__" "ValueError.__init__" [.type "ValueError", .type "Exception", .type "BaseException", .type "object"] := xbB_ok PySem.F.excBase_ValueError PySem.F.store_ValueError b1
  have G1 : mg "BadFilter" = some (.ref (cA K 1)) := He.glo_ok X G (c.t.d.fact 6 (f := .glo "BadFilter") rfl)
  have N1_field : PySem.W.findIn K (.ref (cA K 1)) "field" = some none := He.noat_ok (c.t.d.fact 48 (f := .noat "BadFilter" "field") rfl)
  have M1 := He.meth_ok (c.t.d.fact 36 (f := .meth "BadFilter" "__init__") rfl)
  have X2 : XB K (cA K 2) "ValueError" "ValueError.__new__" "ValueError.__init__" [.type "ValueError", .type "Exception", .type "BaseException", .type "object"] := xbB_ok PySem.F.excBase_ValueError PySem.F.store_ValueError b2
  have G2 : mg "BadTable" = some (.ref (cA K 2)) := He.glo_ok X G (c.t.d.fact 7 (f := .glo "BadTable") rfl)
  have N2_index : PySem.W.findIn K (.ref (cA K 2)) "index" = some none := He.noat_ok (c.t.d.fact 49 (f := .noat "BadTable" "index") rfl)
  have M2 := He.meth_ok (c.t.d.fact 37 (f := .meth "BadTable" "__init__") rfl)
  have X3 : XB K (cA K 3) "ValueError" "ValueError.__new__" "ValueError.__init__" [.type "ValueError", .type "Exception", .type "BaseException", .type "object"] := xbB_ok PySem.F.excBase_ValueError PySem.F.store_ValueError b3
  have G3 : mg "BadOption" = some (.ref (cA K 3)) := He.glo_ok X G (c.t.d.fact 8 (f := .glo "BadOption") rfl)
  have N3_reason : PySem.W.findIn K (.ref (cA K 3)) "reason" = some none := He.noat_ok (c.t.d.fact 50 (f := .noat "BadOption" "reason") rfl)
  have N3_at : PySem.W.findIn K (.ref (cA K 3)) "at" = some none := He.noat_ok (c.t.d.fact 51 (f := .noat "BadOption" "at") rfl)
  have M3 := He.meth_ok (c.t.d.fact 38 (f := .meth "BadOption" "__init__") rfl)
  have X4 : XB K (cA K 4) "LookupError" "LookupError.__new__" "LookupError.__init__" [.type "LookupError", .type "Exception", .type "BaseException", .type "object"] := xbB_ok PySem.F.excBase_LookupError PySem.F.store_LookupError b4
  have G4 : mg "NoCategory" = some (.ref (cA K 4)) := He.glo_ok X G (c.t.d.fact 9 (f := .glo "NoCategory") rfl)
  have N4_name : PySem.W.findIn K (.ref (cA K 4)) "name" = some none := He.noat_ok (c.t.d.fact 52 (f := .noat "NoCategory" "name") rfl)
  have M4 := He.meth_ok (c.t.d.fact 39 (f := .meth "NoCategory" "__init__") rfl)
  have X5 : XB K (cA K 5) "LookupError" "LookupError.__new__" "LookupError.__init__" [.type "LookupError", .type "Exception", .type "BaseException", .type "object"] := xbB_ok PySem.F.excBase_LookupError PySem.F.store_LookupError b5
  have G5 : mg "NoFilter" = some (.ref (cA K 5)) := He.glo_ok X G (c.t.d.fact 10 (f := .glo "NoFilter") rfl)
  have N5_index : PySem.W.findIn K (.ref (cA K 5)) "index" = some none := He.noat_ok (c.t.d.fact 53 (f := .noat "NoFilter" "index") rfl)
  have M5 := He.meth_ok (c.t.d.fact 40 (f := .meth "NoFilter" "__init__") rfl)
  have X6 : XB K (cA K 6) "RuntimeError" "RuntimeError.__new__" "RuntimeError.__init__" [.type "RuntimeError", .type "Exception", .type "BaseException", .type "object"] := xbB_ok PySem.F.excBase_RuntimeError PySem.F.store_RuntimeError b6
  have G6 : mg "Raised" = some (.ref (cA K 6)) := He.glo_ok X G (c.t.d.fact 11 (f := .glo "Raised") rfl)
  have N6_warning : PySem.W.findIn K (.ref (cA K 6)) "warning" = some none := He.noat_ok (c.t.d.fact 54 (f := .noat "Raised" "warning") rfl)
  have M6 := He.meth_ok (c.t.d.fact 41 (f := .meth "Raised" "__init__") rfl)
  have X7 : XB K (cA K 7) "RuntimeError" "RuntimeError.__new__" "RuntimeError.__init__" [.type "RuntimeError", .type "Exception", .type "BaseException", .type "object"] := xbB_ok PySem.F.excBase_RuntimeError PySem.F.store_RuntimeError b7
  have G7 : mg "NoBlock" = some (.ref (cA K 7)) := He.glo_ok X G (c.t.d.fact 12 (f := .glo "NoBlock") rfl)
  have X8 : XB K (cA K 8) "OverflowError" "OverflowError.__new__" "OverflowError.__init__" [.type "OverflowError", .type "ArithmeticError", .type "Exception", .type "BaseException", .type "object"] := xbB_ok PySem.F.excBase_OverflowError PySem.F.store_OverflowError b8
  have G8 : mg "TooMany" = some (.ref (cA K 8)) := He.glo_ok X G (c.t.d.fact 13 (f := .glo "TooMany") rfl)
  have N8_count : PySem.W.findIn K (.ref (cA K 8)) "count" = some none := He.noat_ok (c.t.d.fact 55 (f := .noat "TooMany" "count") rfl)
  have M8 := He.meth_ok (c.t.d.fact 42 (f := .meth "TooMany" "__init__") rfl)
  have X9 : XB K (cA K 9) "ValueError" "ValueError.__new__" "ValueError.__init__" [.type "ValueError", .type "Exception", .type "BaseException", .type "object"] := xbB_ok PySem.F.excBase_ValueError PySem.F.store_ValueError b9
  have G9 : mg "BadPattern" = some (.ref (cA K 9)) := He.glo_ok X G (c.t.d.fact 14 (f := .glo "BadPattern") rfl)
  have N9_index : PySem.W.findIn K (.ref (cA K 9)) "index" = some none := He.noat_ok (c.t.d.fact 56 (f := .noat "BadPattern" "index") rfl)
  have M9 := He.meth_ok (c.t.d.fact 43 (f := .meth "BadPattern" "__init__") rfl)
  have X10 : XB K (cA K 10) "ValueError" "ValueError.__new__" "ValueError.__init__" [.type "ValueError", .type "Exception", .type "BaseException", .type "object"] := xbB_ok PySem.F.excBase_ValueError PySem.F.store_ValueError b10
  have G10 : mg "BadScript" = some (.ref (cA K 10)) := He.glo_ok X G (c.t.d.fact 15 (f := .glo "BadScript") rfl)
  have N10_task : PySem.W.findIn K (.ref (cA K 10)) "task" = some none := He.noat_ok (c.t.d.fact 57 (f := .noat "BadScript" "task") rfl)
  have N10_step : PySem.W.findIn K (.ref (cA K 10)) "step" = some none := He.noat_ok (c.t.d.fact 58 (f := .noat "BadScript" "step") rfl)
  have M10 := He.meth_ok (c.t.d.fact 44 (f := .meth "BadScript" "__init__") rfl)
  have X11 : XB K (cA K 11) "ValueError" "ValueError.__new__" "ValueError.__init__" [.type "ValueError", .type "Exception", .type "BaseException", .type "object"] := xbB_ok PySem.F.excBase_ValueError PySem.F.store_ValueError b11
  have G11 : mg "BadOrder" = some (.ref (cA K 11)) := He.glo_ok X G (c.t.d.fact 16 (f := .glo "BadOrder") rfl)
  have X12 : XB K (cA K 12) "ValueError" "ValueError.__new__" "ValueError.__init__" [.type "ValueError", .type "Exception", .type "BaseException", .type "object"] := xbB_ok PySem.F.excBase_ValueError PySem.F.store_ValueError b12
  have G12 : mg "BadOutcome" = some (.ref (cA K 12)) := He.glo_ok X G (c.t.d.fact 17 (f := .glo "BadOutcome") rfl)
  have X13 : XB K (cA K 13) "LookupError" "LookupError.__new__" "LookupError.__init__" [.type "LookupError", .type "Exception", .type "BaseException", .type "object"] := xbB_ok PySem.F.excBase_LookupError PySem.F.store_LookupError b13
  have G13 : mg "NoStep" = some (.ref (cA K 13)) := He.glo_ok X G (c.t.d.fact 18 (f := .glo "NoStep") rfl)
  have N13_task : PySem.W.findIn K (.ref (cA K 13)) "task" = some none := He.noat_ok (c.t.d.fact 59 (f := .noat "NoStep" "task") rfl)
  have N13_step : PySem.W.findIn K (.ref (cA K 13)) "step" = some none := He.noat_ok (c.t.d.fact 60 (f := .noat "NoStep" "step") rfl)
  have M13 := He.meth_ok (c.t.d.fact 45 (f := .meth "NoStep" "__init__") rfl)
  have X14 : XB K (cA K 14) "OverflowError" "OverflowError.__new__" "OverflowError.__init__" [.type "OverflowError", .type "ArithmeticError", .type "Exception", .type "BaseException", .type "object"] := xbB_ok PySem.F.excBase_OverflowError PySem.F.store_OverflowError b14
  have G14 : mg "TooWide" = some (.ref (cA K 14)) := He.glo_ok X G (c.t.d.fact 19 (f := .glo "TooWide") rfl)
  have N14_what : PySem.W.findIn K (.ref (cA K 14)) "what" = some none := He.noat_ok (c.t.d.fact 61 (f := .noat "TooWide" "what") rfl)
  have M14 := He.meth_ok (c.t.d.fact 46 (f := .meth "TooWide" "__init__") rfl)
  unfold cB2 at c2
  have c3 := fun i (hi : i < 15) => List.all_eq_true.mp c2 i (List.mem_range.mpr hi)
  simp only [Bool.and_eq_true, decide_eq_true_eq] at c3
  have W : Ck K := by
    refine ⟨obB_ok o, fun i hi => ?_, fun i hi => ⟨(c3 i hi).1, (c3 i hi).2.1, (c3 i hi).2.2.1, (c3 i hi).2.2.2.1⟩, fun i hi => (c3 i hi).2.2.2.2.1, fun i hi j hj => of_decide_eq_true (List.all_eq_true.mp (c3 i hi).2.2.2.2.2 j (List.mem_range.mpr hj))⟩
    match i, hi with
    | 0, _ => exact ⟨_, _, _, _, X0⟩
    | 1, _ => exact ⟨_, _, _, _, X1⟩
    | 2, _ => exact ⟨_, _, _, _, X2⟩
    | 3, _ => exact ⟨_, _, _, _, X3⟩
    | 4, _ => exact ⟨_, _, _, _, X4⟩
    | 5, _ => exact ⟨_, _, _, _, X5⟩
    | 6, _ => exact ⟨_, _, _, _, X6⟩
    | 7, _ => exact ⟨_, _, _, _, X7⟩
    | 8, _ => exact ⟨_, _, _, _, X8⟩
    | 9, _ => exact ⟨_, _, _, _, X9⟩
    | 10, _ => exact ⟨_, _, _, _, X10⟩
    | 11, _ => exact ⟨_, _, _, _, X11⟩
    | 12, _ => exact ⟨_, _, _, _, X12⟩
    | 13, _ => exact ⟨_, _, _, _, X13⟩
    | 14, _ => exact ⟨_, _, _, _, X14⟩
  have MM : ∀ i, i < 15 → mg (nm.getD i "") = some (.ref (cA K i)) := fun i hi => ?mm
  case mm =>
    match i, hi with
    | 0, _ => exact G0
    | 1, _ => exact G1
    | 2, _ => exact G2
    | 3, _ => exact G3
    | 4, _ => exact G4
    | 5, _ => exact G5
    | 6, _ => exact G6
    | 7, _ => exact G7
    | 8, _ => exact G8
    | 9, _ => exact G9
    | 10, _ => exact G10
    | 11, _ => exact G11
    | 12, _ => exact G12
    | 13, _ => exact G13
    | 14, _ => exact G14
  refine ⟨_, fun s v => FunD.bindsA (ps := ["_law_script"]) FLaw (fun _ _ _ _ _ _ us hl => match us, hl with | [_], _ => rfl) s [v] rfl, fun base _ _ => ?_⟩
  have CBag : Cl P w K mg base CX0 1 "_law_bag" ["_law_script", "_law_at"] (spBag K) := ⟨_, _, ok_bag FBag T, gBag, FBag.kp, (FBag.bindsN fun _ _ _ _ _ _ us hl => match us, hl with | [_, _], _ => rfl)⟩
  have CTake : Cl P w K mg base CX0 1 "_law_take" ["_law_bag_here", "_law_many"] spTake := ⟨_, _, ok_take FTake T, gTake, FTake.kp, (FTake.bindsN fun _ _ _ _ _ _ us hl => match us, hl with | [_, _], _ => rfl)⟩
  have S : Cs P w K mg base := ⟨⟨_, _, _, _, _, _, X0, M0.at_, eq_of_beq M0.fn, (ok_BadWarning FIBadWarning X0 N0_field).imp spXa_imp, (FIBadWarning.bindsN fun _ _ _ _ _ _ us hl => match us, hl with | [_, _], _ => rfl), G0⟩, N0_field, ⟨_, _, _, _, _, _, X1, M1.at_, eq_of_beq M1.fn, (ok_BadFilter FIBadFilter X1 N1_field).imp spXa_imp, (FIBadFilter.bindsN fun _ _ _ _ _ _ us hl => match us, hl with | [_, _], _ => rfl), G1⟩, N1_field, ⟨_, _, _, _, _, _, X2, M2.at_, eq_of_beq M2.fn, (ok_BadTable FIBadTable X2 N2_index).imp spXa_imp, (FIBadTable.bindsN fun _ _ _ _ _ _ us hl => match us, hl with | [_, _], _ => rfl), G2⟩, N2_index, ⟨_, _, _, _, _, _, X3, M3.at_, eq_of_beq M3.fn, (ok_BadOption FIBadOption X3 N3_reason N3_at).imp spXb_imp, (FIBadOption.bindsN fun _ _ _ _ _ _ us hl => match us, hl with | [_, _, _], _ => rfl), G3⟩, N3_reason, N3_at, ⟨_, _, _, _, _, _, X4, M4.at_, eq_of_beq M4.fn, (ok_NoCategory FINoCategory X4 N4_name).imp spXa_imp, (FINoCategory.bindsN fun _ _ _ _ _ _ us hl => match us, hl with | [_, _], _ => rfl), G4⟩, N4_name, ⟨_, _, _, _, _, _, X5, M5.at_, eq_of_beq M5.fn, (ok_NoFilter FINoFilter X5 N5_index).imp spXa_imp, (FINoFilter.bindsN fun _ _ _ _ _ _ us hl => match us, hl with | [_, _], _ => rfl), G5⟩, N5_index, ⟨_, _, _, _, _, _, X6, M6.at_, eq_of_beq M6.fn, (ok_Raised FIRaised X6 N6_warning).imp spXa_imp, (FIRaised.bindsN fun _ _ _ _ _ _ us hl => match us, hl with | [_, _], _ => rfl), G6⟩, N6_warning, ⟨_, _, _, _, X7, z7, G7⟩, ⟨_, _, _, _, _, _, X8, M8.at_, eq_of_beq M8.fn, (ok_TooMany FITooMany X8 N8_count).imp spXa_imp, (FITooMany.bindsN fun _ _ _ _ _ _ us hl => match us, hl with | [_, _], _ => rfl), G8⟩, N8_count, ⟨_, _, _, _, _, _, X9, M9.at_, eq_of_beq M9.fn, (ok_BadPattern FIBadPattern X9 N9_index).imp spXa_imp, (FIBadPattern.bindsN fun _ _ _ _ _ _ us hl => match us, hl with | [_, _], _ => rfl), G9⟩, N9_index, ⟨_, _, _, _, _, _, X10, M10.at_, eq_of_beq M10.fn, (ok_BadScript FIBadScript X10 N10_task N10_step).imp spXb_imp, (FIBadScript.bindsN fun _ _ _ _ _ _ us hl => match us, hl with | [_, _, _], _ => rfl), G10⟩, N10_task, N10_step, ⟨_, _, _, _, X11, z11, G11⟩, ⟨_, _, _, _, X12, z12, G12⟩, ⟨_, _, _, _, _, _, X13, M13.at_, eq_of_beq M13.fn, (ok_NoStep FINoStep X13 N13_task N13_step).imp spXb_imp, (FINoStep.bindsN fun _ _ _ _ _ _ us hl => match us, hl with | [_, _, _], _ => rfl), G13⟩, N13_task, N13_step, ⟨_, _, _, _, _, _, X14, M14.at_, eq_of_beq M14.fn, (ok_TooWide FITooWide X14 N14_what).imp spXa_imp, (FITooWide.bindsN fun _ _ _ _ _ _ us hl => match us, hl with | [_, _], _ => rfl), G14⟩, N14_what, CTake⟩
  have CMade : Cl P w K mg base CX0 3 "_law_made" ["_law_bag_here"] (spMade K) := ⟨_, _, ok_made FMade T S, gMade, FMade.kp, (FMade.bindsN fun _ _ _ _ _ _ us hl => match us, hl with | [_], _ => rfl)⟩
  have CKinds : Cl P w K mg base CX0 1 "_law_kinds" ["_law_e"] (spKinds K) := ⟨_, _, ok_kinds FKinds T W MM, gKinds, FKinds.kp, (FKinds.bindsN fun _ _ _ _ _ _ us hl => match us, hl with | [_], _ => rfl)⟩
  exact ok_law FLaw T CBag CMade CKinds
end K76
open PySem PySem.W PySem.Calls PyProof.Rows
theorem PySem.Challenge.cw_warnfilters_k76_exceptions_and_their_bas_holds : PySem.Challenge.rw_warnfilters_k76_exceptions_and_their_bas.Holds := by
  w_on; o_law
  refine HandSHeadRun.head_any (r := OpenLaw.row PySem.Challenge.rw_warnfilters_k76_exceptions_and_their_bas) (q := view (OpenLaw.row PySem.Challenge.rw_warnfilters_k76_exceptions_and_their_bas).prog [21]) (H := K76.hk) (ob := K76.ob) (M := 5000) (loose := K76.names) (d := HandSHeadRun.topDef (OpenLaw.row PySem.Challenge.rw_warnfilters_k76_exceptions_and_their_bas).prog 21) (kwd := []) K76.ob_eq
    (by kernel_rfl) (fun s => by kernel_rfl) K76.run (by kernel_rfl) (by kernel_rfl) (by kernel_rfl) (by rfl) (by first | assumption | decide +kernel) (by decide +kernel) ⟨rfl, rfl, rfl, rfl, rfl, by decide +kernel⟩ ?hw ?hc
  case hw => w_witness2
  case hc =>
    refine L2.walk_ofE (l := PySem.Challenge.rw_warnfilters_k76_exceptions_and_their_bas) (n := 63) (k := 4) (x := "_law_script") (CX := L2.CX0) rfl (by decide) (by kernel_rfl) ⟨rfl, by decide, by decide⟩ ?F (fun _ _ _ _ z => z)
    intro w mg fa h Y G hmg0
    obtain ⟨K, KX, c⟩ := Y
    have hmg : mg ("law" : PySem.Str) = some (.ref fa) := by
      have e : (HandSHeadRun.topDef (OpenLaw.row PySem.Challenge.rw_warnfilters_k76_exceptions_and_their_bas).prog 21).name = ("law" : PySem.Str) := by kernel_rfl
      rw [← e]
      exact hmg0
    obtain ⟨fd, hb, hF⟩ := K76.facts (P := (PySem.Challenge.rw_warnfilters_k76_exceptions_and_their_bas).prog) (w := w) KX G hmg c
    exact ⟨K, fd, K76.spLaw K, KX, hb, fun H a ns hl _ hS => ⟨a, ns, rfl, hS, hl, fun _ => rfl⟩, hF⟩
