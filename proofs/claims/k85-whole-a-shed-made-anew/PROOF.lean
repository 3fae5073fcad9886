import PyProof.Rows.All
import Wide.All
import OpenK.AllK
import Wide.FinOn
import KE.KExcInit
import KE.KExcIs
import KE.KTryMore
import HandS.ForMost
import HandS.Exc
import HandS.ExcInit
import HandS.TryOnly
import HandS.ExcOwn
import HandS.WordsExc
import HandS.IsInst
import OpenK.KOps
import HandS.ExcIs
import HandS.ExcField
import HandS.OwnEq
import HandS.TupAny
import HandS.Style
import HandS.NoneIn
import HandS.FStr
import HandS.Wide
import HandS.SortInts
import HandS.Defaults
import HandS.Zip
import HandS.CallSlots
import HandS.Finally
import KE.OsSort
import HandS.MakeKwOnly
import HandS.Codes
import HandS.TupLe
import PySem.Challenge.RW_twopiles_k85_whole_a_shed_made_anew
set_option Elab.async false
set_option linter.all false
set_option maxRecDepth 100000
set_option maxHeartbeats 4000000
/-! own exception classes with an __init__, over any built-in base; one held behind its handler -/
namespace PySem
namespace TwE
open PySem.W PySem.Calls PyProof.Rows PySem.HandSPX
open Builtin Builtin.ObjectAttr
section
variable {prog : Program} {w : World} {A : Around} {E : Value → Shared → Prop} {R : Result → Shared → Prop} {hp : Heap} {g : Array GenState} {d : Drawn} {t : Nat} {os : OsState}
/-- the first field of an exception whose class stands right above a built-in one -/
theorem osa_first {K : W.Frag} {name : Str} {tk : Tok} {v : Value} {x C : Addr} {fv : Array Value} {cd : ClassData} {tl : List Value}
    (X : K.In hp) (hx : hp.get? x = some { cls := .ref C, data := .fields fv }) (hcd : W.clsIn K C = some cd) (hm : cd.mro = .ref C :: tl) (hps : ∀ self, refuseLoop self "__setattr__" tl = pure ()) (hto : tl.contains (.type "object") = true)
    (hh : cd.hasDict = true) (ha : W.findIn K (.ref C) name = some none)
    (hq : ∀ h' tk' dx, (∀ b o, b ≠ x → hp.get? b = some o → h'.get? b = some o) → hp.objs.size ≤ dx → dx ≠ x → h'.get? x = some { cls := .ref C, dict := some dx, data := .fields fv } →
      h'.Ns1 dx (fun y => if y = name then some v else none) → R (.ok (.ret .none)) ⟨h', g, d, tk', os⟩) :
    codeAny (model prog w) A (.call (.builtin "object.__setattr__") ⟨[.ref x, .str name tk, v], []⟩) R ⟨hp, g, d, t, os⟩ := by
  have I : W.InstAt hp x { cls := .ref C, data := .fields fv } C none := ⟨hx, rfl, rfl, trivial⟩
  have SF := F.store_object
  have ne : cd.mro.isEmpty = false := by rw [hm]; rfl
  have hob : cd.mro.contains (.type "object") = true := by rw [hm, List.contains_cons, hto, Bool.or_true]
  have hxs : x ≠ hp.objs.size := Nat.ne_of_lt (Heap.lt_size hx)
  have sub : W.Looks (model prog w) hp (isInstance (.ref x) (.type "object")) true := I.type.andThen (W.looks_mroIn X (by unfold W.mroIn; rw [hcd, Option.bind_some, if_neg (by rw [ne]; decide), hob]))
  refine codeAny_call_builtin SF.slot.plain SF.entry (@W.check_slot (model prog w) _ _ ⟨hp, g, d, t, os⟩ "object.__setattr__" "object" "__setattr__" (.ref x) [.str name tk, v] [] _ SF.kind SF.split sub (SF.args (.ref x) (.str name tk) v) ?_)
  have hmr : W.Looks (model prog w) hp (mroOf (.ref C)) cd.mro := (W.looks_clsIn X hcd).andThen .now
  have L3 : W.Looks (model prog w) hp (storeTaker? none) none := .now
  have hcls : W.Looks (model prog w) hp (classData C) cd := W.looks_clsIn X hcd
  have hpass : refuseLoop (.ref x) "__setattr__" cd.mro = pure () := by rw [hm, refuseLoop_ref]; exact hps _
  rw [W.osa_eq, refuse_eq]
  refine wpAny_bind (wpAny_bind (I.type.at (wpAny_bind (hmr.at ?_))))
  rw [hpass]
  refine wpAny_pure (wpAny_bind (I.type.at (wpAny_bind ((W.looks_findIn X ha).at (wpAny_bind (L3.at ?_))))))
  show wpAny _ _ (storeInOwnDict (.ref x) (.ref C) (.str name tk) name v false) _ _ _
  obtain ⟨nm, bs, mro, ns, qn, hd, sn, sb, ab, col, del⟩ := cd
  dsimp only at hh
  subst hh
  unfold storeInOwnDict ownDictForStores
  repeat (first | with_reducible refine store_in_new ?_ ?_ | with_reducible refine wpAny_loadPart_at hx ?_ | with_reducible refine hcls.at ?_ | wp_step)
  · exact ⟨_, #[], _, (Heap.get?_update_ne _ _ _ _ hxs.symm).trans (Heap.get?_push_at rfl rfl), rfl, fun e he => absurd he (by simp), fun _ => rfl⟩
  · intro h' tk' hn' hs
    have hx₁ : (hp.push { cls := .type "dict", data := .dict #[] }).get? x = some { cls := .ref C, data := .fields fv } := Heap.get?_push_of_some _ hx
    refine hq h' tk' hp.objs.size (fun b o hb ho => ?_) (Nat.le_refl _) hxs.symm ?_ hn'
    · exact (hs.2 b (Nat.ne_of_lt (Heap.lt_size ho))).trans ((Heap.get?_update_ne _ _ _ _ hb).trans (Heap.get?_push_of_some _ ho))
    · exact (hs.2 x hxs).trans (Heap.get?_update_self _ hx₁ rfl)
end
theorem typ_Lookup : typeOf (.type "LookupError") = pure (.type "type") := by kernel_rfl
theorem typ_Overflow : typeOf (.type "OverflowError") = pure (.type "type") := by kernel_rfl
end TwE
end PySem

namespace Tw
open PySem PySem.Spec PyProof.Rows L2
/-- what the written part says of an own class right above a built-in one -/
structure OexB (K : PySem.W.Frag) (C : Addr) (tl : List Value) (newId : String) : Prop where
  cls : ∃ nm q N bs sn sub ab col dd k0 k1 k2 k3 k5, K.lookup C = some (excClassObj nm q C N bs tl true sn sub ab col dd k0 k1 k2 k3 k5 newId)
  sa : PySem.W.findIn K (.ref C) "__setattr__" = some (some (.builtin "object.__setattr__"))
  exC : PySem.W.subIn K (.ref C) (.type "BaseException") = some true
  tyC : PySem.W.typeIn K (.ref C) = some (.type "type")
  kC : PySem.W.keepIn K (.ref C) = true
/-- .. and the built-in one itself -/
structure BaseB (B newId initId : String) (tl : List Value) : Prop where
  F : ExcBaseFacts B newId initId tl
  ps : ∀ self, refuseLoop self "__setattr__" tl = pure ()
  ob : tl.contains (.type "object") = true
  ty : typeOf (.type B) = pure (.type "type")
  st : Manifest.isStub B = false
  hi : PySem.W.handedIn (.builtin initId) = true
abbrev tlLk : List Value := [.type "LookupError", .type "Exception", .type "BaseException", .type "object"]
abbrev tlOv : List Value := [.type "OverflowError", .type "ArithmeticError", .type "Exception", .type "BaseException", .type "object"]
theorem base_Lk : BaseB "LookupError" "LookupError.__new__" "LookupError.__init__" tlLk := ⟨PySem.F.excBase_LookupError, PySem.F.store_LookupError.passes, by decide +kernel, PySem.TwE.typ_Lookup, by decide +kernel, by decide +kernel⟩
theorem base_Ov : BaseB "OverflowError" "OverflowError.__new__" "OverflowError.__init__" tlOv := ⟨PySem.F.excBase_OverflowError, PySem.F.store_OverflowError.passes, by decide +kernel, PySem.TwE.typ_Overflow, by decide +kernel, by decide +kernel⟩
section
variable {X : Cx} {pins : List (Addr × Obj)} {σ : L2.St} {H : Hp} {s : Shared} {a C dx : Addr} {f : Str} {y : V} {u : Value} {fs : List (Str × V)} {Q : Unit → Shared → Prop} {E : Value → Shared → Prop} {A : Around} {B newId initId : String} {tl : List Value}
/-- self.f = y on an exception without fields -/
theorem ostB (Y : BaseB B newId initId tl) (T : OexB X.K C tl newId) (I : Inv X pins σ H s) (e : H a = some (exo a C none)) (hno : PySem.W.findIn X.K (.ref C) f = some none) (ry : RelV y u)
    (h : ∀ dx s', H dx = none → dx ≠ a → Inv X pins σ (upd (upd H dx (exd dx [(f, y)])) a (exo a C (some dx))) s' → Q () s') : wpAny (model X.prog X.w) A (setAttr (.ref a) f u) Q E s := by
  obtain ⟨nm, q, N, bs, sn, sub, ab, col, dd, k0, k1, k2, k3, k5, hC⟩ := T.cls
  have hcl : PySem.W.clsIn X.K C = some { name := nm, bases := bs, mro := .ref C :: tl, ns := N, qualname := q, hasDict := true, slotNames := sn, subclasses := sub, abstract := ab, collection := col, hasDel := false } := by unfold PySem.W.clsIn; rw [hC] <;> rfl
  obtain ⟨t1, ho⟩ := exo_at I.hok e
  obtain ⟨hp, g, d, t, os⟩ := s
  refine PySem.W.set_plain I.kIn (ox := { cls := .ref C, dict := none, data := .fields #[.ref t1, .none, .none, .none, .bool false, .none] }) (od := none) ⟨ho, rfl, rfl, trivial⟩ T.sa ?_
  refine PySem.TwE.osa_first I.kIn ho hcl rfl Y.ps Y.ob rfl hno (fun h' tk' dx k dn dne hx hn => ?_)
  have hnd : H dx = none := I.hok.fresh dn
  have nd : ∀ {b : Addr} {o : Obj}, hp.get? b = some o → b ≠ dx := fun {b o} q => Nat.ne_of_lt (Nat.lt_of_lt_of_le (Heap.lt_size q) dn)
  have na : ∀ {b : Addr}, H b = none → b ≠ a := fun {b} n z => by
    rw [z, e] at n
    cases n
  have Un1 : Un X.fs [] H (upd (upd H dx (exd dx [(f, y)])) a (exo a C (some dx))) hp h' := {
    keep := fun b o q n _ _ => k b o (na n) q
    slot := fun b o q n _ _ => ⟨o.slots, k b o (na n) q⟩
    free := fun b o q n _ => by rw [upd_ne (na n), upd_ne (nd q)]; exact n
    there := fun b o q _ => by
      by_cases hb : b = a
      · exact ⟨_, by rw [hb]; exact hx⟩
      · exact ⟨o, k b o hb q⟩
    tups := fun b xs q => by rw [upd_ne (at_ne e q exo_tup), upd_ne (ne_of_none q hnd)]; exact q
    frzs := fun b o v q => by rw [upd_ne (at_ne e q exo_frz), upd_ne (ne_of_none q hnd)]; exact q
    tbls := fun b ps q => ⟨#[], by rw [upd_ne (at_ne e q exo_tbl), upd_ne (ne_of_none q hnd), q]; simp⟩ }
  refine h dx _ hnd dne (I.un (t' := tk') Un1 fun b o q => ?_)
  by_cases hb : b = a
  · subst hb
    rw [upd_same] at q
    cases q
    exact exo_ok hx
  · rw [upd_ne hb] at q
    by_cases hd : b = dx
    · subst hd
      rw [upd_same] at q
      cases q
      exact exd_ok hn (relO_put (fs := []) ry fun g => True.intro)
    · rw [upd_ne hd] at q
      exact (I.hok b o q).stay (fun c v hc z => k c v (by
          rcases hc with hc | hc
          · rw [hc]
            exact hb
          · exact at_ne e hc exo_own) z)
        (fun c hc => by rw [upd_ne (at_ne e hc exo_own), upd_ne (ne_of_none hc hnd)]; exact hc) (fun c xs hc => by rw [upd_ne (at_ne e hc exo_tup), upd_ne (ne_of_none hc hnd)]; exact hc)
/-- B.__init__(self, ..) -/
theorem oinitB {us : List Value} {Q : Value → Shared → Prop} (Y : BaseB B newId initId tl) (T : OexB X.K C tl newId) (I : Inv X pins σ H s) (e : H a = some (exo a C none)) (hl : us.length ≤ sizeLine) (h : ∀ s', Inv X pins σ H s' → Q .none s') :
    wpAny (model X.prog X.w) A (call (.builtin initId) (.ref a :: us)) Q E s := by
  obtain ⟨nm, q, N, bs, sn, sub, ab, col, dd, k0, k1, k2, k3, k5, hC⟩ := T.cls
  obtain ⟨t1, ho⟩ := exo_at I.hok e
  obtain ⟨hp, g, d, t, os⟩ := s
  refine wpAny_call (PySem.HandSPX.init_base Y.F (fun _ => rfl) (I.kIn _ _ hC) ho hl fun h' t2 k hx => ?_)
  have J := I.write (t' := t) (x := a) (e := a) (o := exo a C none) (by rw [e]; exact True.intro) (.inl rfl) k ⟨_, hx⟩ (exo_ok hx)
  have eu : upd H a (exo a C none) = H := by
    funext b
    by_cases hb : b = a
    · rw [hb, upd_same, e]
    · rw [upd_ne hb]
  rw [eu] at J
  exact h _ J
end
/-- B.__init__(self, ..) -/
def tBi (K : PySem.W.Frag) (tl : List Value) (newId : String) (ta : TA) : TE := fun σ H Q => ta σ H fun vs H1 => ∃ (a C : Addr) (ws : List V), vs = .ref a :: ws ∧ ws.length ≤ 1000 ∧ OexB K C tl newId ∧ H1 a = some (exo a C none) ∧ Q .non H1
/-- self.f = e -/
def tOsb (K : PySem.W.Frag) (tl : List Value) (newId : String) (f : Str) (to te : TE) : TS := fun D σ H => te σ H fun y H1 => to σ H1 fun x H2 => ∃ a C : Addr, x = .ref a ∧ OexB K C tl newId ∧ PySem.W.findIn K (.ref C) f = some none ∧
  (H2 a = some (exo a C none) ∧ ∀ dx, H2 dx = none → dx ≠ a → D.nx σ (upd (upd H2 dx (exd dx [(f, y)])) a (exo a C (some dx))))
section
variable {X : Cx} {o e : Expr} {es : List Expr} {to te : TE} {ta : TA} {f x : Str} {p p' p1 p2 pos : Pos} {B newId initId : String} {tl : List Value}
theorem pe_binit {pl : Sem Bool} (Y : BaseB B newId initId tl) (hg : Gl X x) (hm : X.mg x = none) (hv : bootBuiltins x = some (.type B)) (vV : PySem.W.findCls X.K (.type B) (.type "type") "__init__" = some (.val (.builtin initId))) (ha : PA X (e :: es) ta)
    (hn : x ≠ "__name__" := by decide) (hd : (x == ("__debug__" : Str)) = false := by decide)
    (hc : eval (.Call (.Attribute (.Name x p1) "__init__" p2) (e :: es) [] pos) X.env = (do
      let ov ← eval (.Name x p1) X.env
      standAt p2.atName
      let (f, first) ← holding [ov] (getMethod ov "__init__" pl)
      callWith pos f first (backTo pos (starEach (e :: es) X.env)) (backToKw pos (keywordEach [] X.env))) := by rfl)
    (he : starEach (e :: es) X.env = (false, eval e X.env) :: starEach es X.env := by rfl) (hpl : (backTo pos (starEach es X.env)).any (·.1) = false := by rfl) :
    PE X (.Call (.Attribute (.Name x p1) "__init__" p2) (e :: es) [] pos) (tBi X.K tl newId ta) := by
  refine ⟨fun pins s σ H Q I h => ?_⟩
  refine PySem.W.methodCall_KW (ld_blt I hg hm hv ?_ hn hd) hc
  obtain ⟨m, fr⟩ := I.fr
  refine PySem.W.method_type fr I.ok.mod.kin Y.ty Y.st vV Y.hi ?_
  show wpAny _ _ (callWith pos (Value.builtin initId) [] (backTo pos (starEach (e :: es) X.env)) []) _ _ _
  refine PyProof.Rows.callWith_method1 (thn (ha.run pos pins _ σ H _ (I.tok _) h) fun us s1 ⟨vs, H1, I1, r1, a, C, ws, ev, hl, T, ea, q⟩ => ?_) he hpl
  subst ev
  cases r1 with
  | @cons _ u0 _ ur ra rw' =>
    obtain rfl : u0 = Value.ref a := ra
    have hlen : ur.length ≤ sizeLine := by
      rw [← Paired.length rw', sizeLine_eq]
      omega
    exact oinitB Y T I1 ea hlen fun s' J => ⟨.non, H1, J, rfl, q⟩
theorem ps_osb (Y : BaseB B newId initId tl) (ho : PE X o to) (he : PE X e te) (hs : swapsWith e (some (.Attribute o f p')) pos.line X.env = pure false := by rfl) : PS X (.Assign [.Attribute o f p'] e pos) (tOsb X.K tl newId f to te) := by
  refine ⟨fun pins s σ H D I h => ?_⟩
  refine plainObj_wpAny_Assign_Attribute (thn (he.run pins s σ H _ I h) fun v s1 ⟨y, H1, I1, r1, q1⟩ => thn (ho.run pins s1 σ H1 _ I1 q1) fun u s2 ⟨x, H2, I2, r2, a, C, ex, T, hno, ea, q⟩ => ?_) hs
  subst ex
  obtain rfl : u = Value.ref a := r2
  exact ostB Y T I2 ea hno r1 fun dx s' n ne J => ⟨σ, _, J, q dx n ne⟩
/-- C(e, ..), its __init__ by promise -/
theorem pmk_ob {CX : CXT} {C fI : Addr} {k : Nat} {fd : FuncData} {ps : List Str} {sp : Sp} {ds : List Value} {dvs : List V} (Y : BaseB B newId initId tl) (T : OexB X.K C tl newId) (iC : PySem.W.findIn X.K (.ref C) "__init__" = some (some (.ref fI))) (tI : PySem.W.typeIn X.K (.ref fI) = some (.type "function"))
    (F1 : FnOk X.prog X.w X.K X.mg X.base CX k fI fd ps sp) (hr : Room (k + 1) X.A) (hb : Binds X.K fd ps ds) (hd : Vals dvs ds) (hx : Passes CX X (fun _ _ _ => False)) (hg : Gl X x) (hm : X.mg x = some (.ref C)) (ha : PA X (e :: es) ta)
    (hdb : (x == ("__debug__" : Str)) = false := by decide) (he : starEach (e :: es) X.env = (false, eval e X.env) :: starEach es X.env := by rfl) (hpl : (backTo pos (starEach es X.env)).any (·.1) = false := by rfl) :
    PMk X (.Call (.Name x p) (e :: es) [] pos) (tMkO C sp dvs ta) := by
  intro pins s σ H Q I h
  obtain ⟨nm, q, N, bs, sn, sub, ab, col, dd, k0, k1, k2, k3, k5, hC⟩ := T.cls
  refine wpAny_Call_Name_kw (ld_glob I hg hm ?_ hdb)
  refine PySem.W.callWith_K (h₀ := X.base) I.ok.mod.kin T.kC (thn (ha.run pos pins s σ H _ I h) fun us s1 ⟨vs, H1, I1, r1, hz, q1⟩ => ⟨I1.kIn, ?_⟩) he hpl
  show wpAny _ _ (call (.ref C) us) _ _ _
  obtain ⟨hp, g, dr, tk, os⟩ := s1
  have hsz : hp.objs.size ≤ hp.objs.size + 1 := Nat.le_succ _
  have hn : H1 (hp.objs.size + 1) = none := I1.hok.fresh hsz
  have hq := q1 (hp.objs.size + 1) hn
  have kk : ∀ b o, hp.get? b = some o → ((hp.push (PySem.W.kdv_tup us)).push (PySem.HandSPX.excO C hp.objs.size)).get? b = some o := fun b o e => Heap.get?_push_of_some _ (Heap.get?_push_of_some _ e)
  have hget : ((hp.push (PySem.W.kdv_tup us)).push (PySem.HandSPX.excO C hp.objs.size)).get? (hp.objs.size + 1) = some (PySem.HandSPX.excO C hp.objs.size) := by heap_get
  have I2 : Inv X pins σ (upd H1 (hp.objs.size + 1) (exo (hp.objs.size + 1) C none)) ⟨(hp.push (PySem.W.kdv_tup us)).push (PySem.HandSPX.excO C hp.objs.size), g, dr, tk, os⟩ :=
    I1.laid (t' := tk) (a := hp.objs.size + 1) (o := exo (hp.objs.size + 1) C none) (h' := (hp.push (PySem.W.kdv_tup us)).push (PySem.HandSPX.excO C hp.objs.size)) kk hsz (exo_ok hget)
  have r2 : Vals (V.ref (hp.objs.size + 1) :: (vs ++ dvs)) (Value.ref (hp.objs.size + 1) :: (us ++ ds)) := .cons rfl (r1.append hd)
  have hl : (Value.ref (hp.objs.size + 1) :: us ++ ds).length = ps.length := by
    have e := r2.length
    rw [F1.len _ _ _ _ hq] at e
    exact e.symm
  have hus : us.length ≤ sizeLine := by
    rw [← Paired.length r1, sizeLine_eq]
    omega
  refine wpAny_call (PySem.HandSPX.call_own Y.F (fun _ => rfl) (I1.kIn _ _ hC) (PySem.W.looks_findIn I1.kIn iC) (fun self => PySem.W.bind_fn I1.kIn self tI) hus
    (codeAny_mono (F1.run _ X.stack _ _ ⟨Value.ref (hp.objs.size + 1) :: us, []⟩ (Value.ref (hp.objs.size + 1) :: (us ++ ds)) _ _ (fun _ _ _ => False) (hr.make C us []) (I2.env0.make C us []) (hb _ (Value.ref (hp.objs.size + 1) :: us) I2.kIn hl) r2 hq) fun r s' hq' => ?_))
  cases r with
  | error er => exact hx pins σ _ _ er s' I2 hq'
  | ok fl =>
    cases fl with
    | ret u =>
      obtain ⟨v, H2, os2, bare2, un2, hok2, rv, ev, d, fs, ea, ed, hd1, q2⟩ := hq'
      subst ev
      obtain ⟨h2, g2, d2, t2, os'⟩ := s'
      exact ⟨rv, mk_end (raises_own T.exC T.tyC) I1 hsz kk un2 hok2 os2 bare2 ea ed hd1 q2⟩
    | next => exact False.elim hq'
    | brk => exact False.elim hq'
    | cont => exact False.elim hq'
end
end Tw
set_option Elab.async false
set_option linter.all false
set_option maxRecDepth 100000
set_option maxHeartbeats 4000000
/-! an error that a clause «except (A, B, C, D) as n: m = n» keeps, and what is asked of it behind -/
namespace PySem.W
open PySem PySem.Spec PySem.Calls PyProof.Rows
theorem tw_exm4 {M : Model} {K : Frag} {c1 c2 c3 c4 cls : Value} {tp e : Addr} {dd : Option Addr} {n : Nat} {sl : Array (Option Value)} {b : Bool} {h : Heap} (X : K.In h) (LT : Looks M h (typeOf (.ref e)) cls)
    (hp : h.get? tp = some ⟨.type "tuple", dd, .seq [c1, c2, c3, c4].toArray n, sl⟩) (hx : exmAny K cls [c1, c2, c3, c4] = some b) :
    Looks M h (excMatches (.ref e) (.ref tp)) b := by
  intro A Q E s k₀ q
  obtain ⟨hh, g, d, tk, os⟩ := s
  have k : ∀ b o, h.get? b = some o → hh.get? b = some o := k₀
  have LT0 : Looks M h (isInstance (.ref tp) (.type "tuple")) true := ((Looks.ld hp).andThen .now).andThen (Looks.of_pure isSubtype_tuple_tuple)
  obtain ⟨b1, d1, x1, y1, z1⟩ := exmAny_cons hx
  obtain ⟨b2, d2, x2, y2, z2⟩ := exmAny_cons y1
  obtain ⟨b3, d3, x3, y3, z3⟩ := exmAny_cons y2
  obtain ⟨b4, d4, x4, y4, z4⟩ := exmAny_cons y3
  obtain ⟨e1, S1⟩ := exm_cls (M := M) X x1
  have e1 := e1.keeps k
  have S1 := S1.keeps k
  obtain ⟨e2, S2⟩ := exm_cls (M := M) X x2
  have e2 := e2.keeps k
  have S2 := S2.keeps k
  obtain ⟨e3, S3⟩ := exm_cls (M := M) X x3
  have e3 := e3.keeps k
  have S3 := S3.keeps k
  obtain ⟨e4, S4⟩ := exm_cls (M := M) X x4
  have e4 := e4.keeps k
  have S4 := S4.keeps k
  have w4 : some false = some d4 := y4
  cases w4
  have LT := LT.keeps k
  have LT0 := LT0.keeps k
  have hp' := k _ _ hp
  subst z1 z2 z3 z4
  unfold excMatches
  refine wpAny_bind (LT0.at ?_)
  dsimp only
  rw [if_pos rfl]
  first
    | refine wpAny_bind (wpAny_seqItems hp' rfl ?_)
    | refine wpAny_bind (wpAny_bind (wpAny_seqItems hp' rfl (wpAny_pure ?_)))
  dsimp only [Option.getD_some, Option.getD]
  cases b1 <;> cases b2 <;> cases b3 <;> cases b4 <;> ((repeat (first | simp only [List.forIn_cons, List.forIn_nil, Bool.not_true, Bool.false_eq_true, if_false, if_true] | lk)); exact q)
end PySem.W

namespace Tw
open PySem PySem.Spec PyProof.Rows L2
/-- an error object of the class at C that is kept: its own dict stands at d -/
def exv (a C d : Addr) : HO := .ext fun h => ∃ oe vs, h.get? a = some oe ∧ Zc (.ref C) (some d) oe ∧ oe.data = .fields vs
theorem exv_own {a C d x : Addr} : exv a C d ≠ .own x := fun z => by
  have z' : HO.ext _ = HO.own x := z
  cases z'
theorem exv_ok {P : Program} {w : World} {H : Hp} {h : Heap} {a C d : Addr} {oe : Obj} {vs : Array Value} (he : h.get? a = some oe) (hz : Zc (.ref C) (some d) oe) (hd : oe.data = .fields vs) : ObjOk P w H h a (exv a C d) :=
  ⟨⟨oe, vs, he, hz, hd⟩, ⟨_, he⟩, fun h1 h2 z k => by
    obtain ⟨o, v, q1, q2, q3⟩ := z
    exact ⟨o, v, k _ q1, q2, q3⟩⟩
theorem exv_at {P : Program} {w : World} {H : Hp} {h : Heap} {a C d : Addr} (hok : HOk P w H h) (he : H a = some (exv a C d)) : ∃ oe vs, h.get? a = some oe ∧ Zc (.ref C) (some d) oe ∧ oe.data = .fields vs := by
  have x : ObjOk P w H h a (.ext fun h => ∃ oe vs, h.get? a = some oe ∧ Zc (.ref C) (some d) oe ∧ oe.data = .fields vs) := hok a _ he
  exact x.1
section
variable {X : Cx} {pins : List (Addr × Obj)} {σ : L2.St} {H : Hp} {s : Shared} {a C d : Addr}
/-- an object of ours that was not tracked is tracked from now on -/
theorem Inv.track {oe : Obj} {vs : Array Value} (I : Inv X pins σ H s) (na : H a = none) (he : s.heap.get? a = some oe) (hz : Zc (.ref C) (some d) oe) (hd : oe.data = .fields vs) (old : X.s_0.heap.get? a = none) (nL : a ≠ X.env.locals)
    (nP : ∀ p ∈ X.pn ++ pins, p.1 ≠ a) : Inv X pins σ (upd H a (exv a C d)) s := by
  have nh : ∀ {b : Addr} {u : HO}, H b = some u → b ≠ a := fun {b u} e => ne_of_none e na
  have n0 : ∀ {b : Addr} {o : Obj}, X.s_0.heap.get? b = some o → b ≠ a := fun {b o} e z => by
    rw [z, old] at e
    cases e
  refine ⟨I.ok, I.os, I.bare, ⟨I.base.keep, I.base.slot, fun b o e n hx => ?_, I.base.there, fun b xs e => ?_, fun b o u e => ?_, fun b ps e => ?_⟩, I.loc, I.cell, ?_, fun x c e => ?_, fun p hp => ?_, fun b o e => ?_, I.len⟩
  · rw [upd_ne (n0 e)]
    exact I.base.free b o e n hx
  · have q := I.base.tups b xs e
    rw [upd_ne (nh q)]
    exact q
  · have q := I.base.frzs b o u e
    rw [upd_ne (nh q)]
    exact q
  · obtain ⟨more, q⟩ := I.base.tbls b ps e
    exact ⟨more, by rw [upd_ne (nh q)]; exact q⟩
  · rw [upd_ne (Ne.symm nL)]
    exact I.free
  · have nc : c ≠ a := fun z => by
      obtain ⟨v, o, ho, hdc⟩ := I.cell x c e
      rw [z, he] at ho
      have z2 := Option.some.inj ho
      subst z2
      rw [hd] at hdc
      cases hdc
    rw [upd_ne nc]
    exact I.freeC x c e
  · obtain ⟨e, n, ne, nf, dd⟩ := I.pin p hp
    exact ⟨e, by rw [upd_ne (nP p hp)]; exact n, ne, nf, dd⟩
  · by_cases hb : b = a
    · subst hb
      rw [upd_same] at e
      cases e
      exact exv_ok he hz hd
    · rw [upd_ne hb] at e
      exact (I.hok b o e).stay (fun c v _ q => q) (fun c q => by rw [upd_ne (nh q)]; exact q) fun c xs q => by rw [upd_ne (nh q)]; exact q
end
/-- what the clause wishes: the error is one of the four; slot i is the clause's name, slot j keeps the error -/
def wHold (K : PySem.W.Frag) (cs : List Value) (i j : Nat) (D : Ends) : WX := fun cls d σ H =>
  ∃ C dd : Addr, cls = .ref C ∧ d = some dd ∧ PySem.W.exmAny K cls cs = some true ∧ ∀ a, H a = none → D.nx (((σ.set i (some (.ref a))).set j (some (.ref a))).set i none) (upd H a (exv a C dd))
section
variable {X : Cx} {x1 x2 x3 x4 n m : Str} {c1 c2 c3 c4 : Value} {i j : Nat} {body : List Stmt} {q1 q2 q3 q4 tp np mp ap pos pos' : Pos} {tk0 : Nat} {tb : WX → TS}
theorem ps_try_hold (hs : X.stack = X.env :: X.outer) (hf : X.env.frame = some X.env.locals) (hex : X.ex = []) (hN : X.N.Nodup) (hi : X.N[i]? = some n) (hln : X.env.kindOf n = some .local) (hj : X.N[j]? = some m) (hlm : X.env.kindOf m = some .local)
    (g1 : Gl X x1) (g2 : Gl X x2) (g3 : Gl X x3) (g4 : Gl X x4) (m1 : X.mg x1 = some c1) (m2 : X.mg x2 = some c2) (m3 : X.mg x3 = some c3) (m4 : X.mg x4 = some c4)
    (d1 : (x1 == ("__debug__" : Str)) = false) (d2 : (x2 == ("__debug__" : Str)) = false) (d3 : (x3 == ("__debug__" : Str)) = false) (d4 : (x4 == ("__debug__" : Str)) = false)
    (dn : (n == ("__debug__" : Str)) = false) (dc : (n == ("__classdict__" : Str)) = false)
    (hst : starEach [.Name x1 q1, .Name x2 q2, .Name x3 q3, .Name x4 q4] X.env = [(false, eval (.Name x1 q1) X.env), (false, eval (.Name x2 q2) X.env), (false, eval (.Name x3 q3) X.env), (false, eval (.Name x4 q4) X.env)])
    (hsw : swapsWith (.Name n np) (some (.Name m mp)) ap.line X.env = pure false)
    (hb : ∀ (W : WX) (pn : List (Addr × Obj)) (xe : Value → Shared → Prop), Takes (X.tr pn xe) W → PassesOwn (model X.prog X.w) X.A X.env xe → PSs (X.tr pn xe) body (tb W)) :
    PS X (.Try body [.ExceptHandler (some (.Tuple [.Name x1 q1, .Name x2 q2, .Name x3 q3, .Name x4 q4] tk0 tp)) (some n) [.Assign [.Name m mp] (.Name n np) ap] pos'] [] [] pos)
      (fun D σ H => tb (wHold X.K [c1, c2, c3, c4] i j D) D σ H) := by
  refine ⟨fun pins s σ H D I h => ?_⟩
  have ok := I.ok
  have hfr : X.A.frames = some (X.env :: X.outer) := by rw [ok.frames, hs]
  have hloc : Loc X.env.scope n := .inl hln
  refine wpAny_Try_except ?_
  refine wpAny_mono ((hb (wHold X.K [c1, c2, c3, c4] i j D) (X.pn ++ pins) (fun e s₁ => wpAny (model X.prog X.w) X.A (noteFrame e X.env) (fun _ s₂ => wpAny (model X.prog X.w) X.A (setFlight e none) (fun _ s₃ =>
    wpAny (model X.prog X.w) X.A (handleBy e X.env [.ExceptHandler (some (.Tuple [.Name x1 q1, .Name x2 q2, .Name x3 q3, .Name x4 q4] tk0 tp)) (some n) [.Assign [.Name m mp] (.Name n np) ap] pos']) (SP X pins D) X.xe s₃) X.xe s₂) X.xe s₁) (fun u s' xx => ?_) PassesOwn.looking).run [] s σ H D (I.toTry _) h) (fun f s1 hsp => ?_) (fun e s1 he => he)
  · obtain ⟨a, B, sI, pins', σ', H', cls, d, rfl, J', nb, up, sky, na, os, ag, C, dd, ecls, ed, hx, hyes⟩ := xx
    subst ecls ed
    have J : Inv X pins σ' H' sI := J'.ofTry ok
    have sky' : Sky B (X.env :: X.outer) a (Zc (.ref C) (some dd)) X.env.locals s'.heap := by rw [← hs]; exact sky
    show wpAny (model X.prog X.w) X.A (noteFrame (.ref a) X.env) _ _ _
    refine Sky.land Zc.steady hfr hf sky' fun h3 fl3 up3 => ?_
    have J3 : Inv X pins σ' H' { s' with heap := h3 } := J.landed nb fl3.1 (up.trans up3) os ag
    have Bn : B.get? a = none := fl3.2.1
    obtain ⟨oe3, vs3, he3, hz3, hd3⟩ := fl3.there
    have notFr : ∀ {h : Heap} {o : Obj} {vs : Array Value}, h.FunFrames B (X.env :: X.outer) → h.get? a = some o → o.data = .fields vs → a ∉ frs (X.env :: X.outer) := fun {h o vs} ff e dd hm => by
      obtain ⟨_, o', e', hnf⟩ := ff.mem hm
      rw [e] at e'; cases e'
      exact hnf _ dd
    have nfr := notFr fl3.2.2.1 he3 hd3
    have nL : a ≠ X.env.locals := fun z => nfr (List.mem_filterMap.mpr ⟨X.env, List.mem_cons_self, by rw [hf, z]⟩)
    have nF : a ∉ X.fs := fun hm => by
      obtain ⟨e, he, q⟩ := List.mem_filterMap.mp hm
      exact nfr (List.mem_filterMap.mpr ⟨e, List.mem_cons_of_mem _ he, q⟩)
    have nSt : a ∉ frs X.stack := by rw [hs]; exact nfr
    -- the error is younger than the def's entry, and no pin
    have old : X.s_0.heap.get? a = none := by
      cases q : X.s_0.heap.get? a with
      | none => rfl
      | some o =>
        obtain ⟨o', e'⟩ := J.base.there a o q (by rw [hex]; simp)
        have z := nb a o' e' nSt
        rw [Bn] at z
        cases z
    have nP : ∀ p ∈ X.pn ++ pins, p.1 ≠ a := fun p hp z => by
      obtain ⟨e, _, ne, nf, _⟩ := J.pin p hp
      rw [z] at e ne nf
      have y := nb a _ e nSt
      rw [Bn] at y
      cases y
    have S3 := J3.suite he3 hd3 na nL nF
    refine wpAny_handleBy_cons (codeAny_handlers_test ?_) (by intro q; cases q)
    -- the tuple of the classes
    refine wpAny_Tuple_spliced ?_
    rw [hst]
    refine Calls.spliced_cons (ld_glob (X := X.suite a ((a, oe3) :: (X.pn ++ pins))) S3 g1 m1 (Calls.spliced_cons (ld_glob (X := X.suite a ((a, oe3) :: (X.pn ++ pins))) S3 g2 m2 (Calls.spliced_cons (ld_glob (X := X.suite a ((a, oe3) :: (X.pn ++ pins))) S3 g3 m3
      (Calls.spliced_cons (ld_glob (X := X.suite a ((a, oe3) :: (X.pn ++ pins))) S3 g4 m4 (Calls.spliced_nil ?_) d4)) d3)) d2)) d1)
    refine ⟨by show 4 ≤ sizeLine; decide, ?_⟩
    generalize hh4 : h3.push { cls := .type "tuple", data := .seq [c1, c2, c3, c4].toArray } = h4
    have kp : ∀ b o, h3.get? b = some o → h4.get? b = some o := fun b o e => by rw [← hh4]; exact Heap.get?_push_of_some _ e
    have hget : h4.get? h3.objs.size = some ⟨.type "tuple", none, .seq [c1, c2, c3, c4].toArray 0, #[]⟩ := by rw [← hh4]; exact Heap.get?_push_size h3 rfl
    have fl4 : HandSPX.FlyingZ B (X.env :: X.outer) a (Zc (.ref C) (some dd)) h4 := by
      obtain ⟨k1, k2, k3, oe, vs, T, oT, ts, y1, y2, y3, y4, y5, y6, y7, y8, y9⟩ := fl3
      exact ⟨fun b o e => kp b o (k1 b o e), k2, Heap.FunFrames.of_keeps (fun b o e _ => ⟨o, kp b o e, rfl⟩) k3, oe, vs, T, oT, ts, kp _ _ y1, y2, y3, y4, y5, y6, kp _ _ y7, y8, y9⟩
    have J4 : Inv X pins σ' H' { s' with heap := h4 } := J3.kept (t' := s'.toks) kp
    have he4 := kp _ _ he3
    have LT : PySem.W.Looks (model X.prog X.w) h4 (typeOf (.ref a)) (.ref C) := fun A Q E s k q => wpAny_typeOf_ref (k _ _ he4) (by rw [hz3.1]; exact q)
    refine (PySem.W.tw_exm4 (M := model X.prog X.w) J4.kIn LT hget hx).here ?_
    refine codeAny_handlers_suite_as ?_
    refine HandSPX.lands_againZ fl4 fun h5 fl5 up5 => ?_
    have J5 : Inv X pins σ' H' { s' with heap := h5 } := J.landed nb fl5.1 (((up.trans up3).trans (Heap.UpToSlots.of_keeps kp)).trans up5) os ag
    obtain ⟨oe5, vs5, he5, hz5, hd5⟩ := fl5.there
    have S5 := J5.suite he5 hd5 na nL nF
    refine store_ok (X := X.suite a ((a, oe5) :: (X.pn ++ pins))) (v := .ref a) S5 hN hi hloc rfl (fun s6 S6 => ?_) (.inr hln)
    have hil : i < σ'.length := by rw [J5.len]; exact (List.getElem?_eq_some_iff.mp hi).1
    have su : PSs (X.suite a ((a, oe5) :: (X.pn ++ pins))) [.Assign [.Name m mp] (.Name n np) ap] (tAsg (tVar i) (gName j)) := pss_one (ps_set hN hj (.inl hlm) (pe_var hi (.inl hln) dn dc) hsw (.inr hlm))
    refine wpAny_mono (su.run [] s6 _ H' { nx := fun σ6 H6 => σ6 = (σ'.set i (some (.ref a))).set j (some (.ref a)) ∧ H6 = H', rt := fun _ _ => False } S6 ⟨_, List.getElem?_set_self hil, rfl, rfl⟩) (fun f s7 hsp => ?_) (fun _ _ z => False.elim z)
    cases f with
    | next =>
      obtain ⟨σ7, H7, S7, e1, e2⟩ := hsp
      subst e1 e2
      have hp7 := (S7.pin (a, oe5) (List.mem_append_left _ List.mem_cons_self)).1
      have J7 := Inv.track (C := C) (d := dd) (S7.unsuite ok) na hp7 hz5 hd5 old nL nP
      exact gone_ok J7 hN hi hln fun s8 J8 => ⟨_, _, J8, hyes a na⟩
    | brk =>
      obtain ⟨_, _, _, z⟩ := hsp
      exact z.elim
    | cont =>
      obtain ⟨_, _, _, z⟩ := hsp
      exact z.elim
    | ret u =>
      obtain ⟨_, _, _, _, _, z⟩ := hsp
      exact z.elim
  · cases f with
    | next =>
      obtain ⟨σ', H', J', q⟩ := hsp
      exact wpAny_execs_nil ⟨σ', H', J'.ofTry ok, q⟩
    | brk =>
      obtain ⟨σ', H', J', q⟩ := hsp
      exact ⟨σ', H', J'.ofTry ok, q⟩
    | cont =>
      obtain ⟨σ', H', J', q⟩ := hsp
      exact ⟨σ', H', J'.ofTry ok, q⟩
    | ret u =>
      obtain ⟨v, σ', H', J', r, q⟩ := hsp
      exact ⟨v, σ', H', J'.ofTry ok, r, q⟩
end
end Tw
set_option Elab.async false
set_option linter.all false
set_option maxRecDepth 100000
set_option maxHeartbeats 4000000
/-! what is asked of a kept error; len, repr, != by an own method -/
namespace Tw
open PySem PySem.Spec PyProof.Rows L2
section
variable {X : Cx}
/-- a kept error as an instance of its class -/
theorem exv_inst {P : Program} {w : World} {H : Hp} {h : Heap} {a C d : Addr} {fs : List (Str × V)} (hok : HOk P w H h) (ha : H a = some (exv a C d)) (hd : H d = some (.xd fs)) :
    ∃ (oe od : Obj) (mA : Str → Option Value), PySem.W.InstAt h a oe C (some od) ∧ (∀ name, PySem.W.lookIn name od = some (mA name)) ∧ ∀ f, RelO (fs.lookup f) (mA f) := by
  obtain ⟨oe, vs, h1, h2, h3⟩ := exv_at hok ha
  have hx : ObjOk P w H h d (.xd fs) := hok d _ hd
  obtain ⟨mA, hns, hr⟩ := hx
  obtain ⟨od, ho, hl⟩ := lookIn_ns hns
  exact ⟨oe, od, mA, ⟨h1, h2.1, by unfold PySem.W.notCls; rw [h3] <;> rfl, by rw [h2.2]; exact ho⟩, hl, hr⟩
/-- e.f of a kept error -/
def tXv (K : PySem.W.Frag) (f : Str) (te : TE) : TE := fun σ H Q => te σ H fun x H1 => ∃ (a C d : Addr) (fs : List (Str × V)) (v : V), x = .ref a ∧ H1 a = some (exv a C d) ∧ H1 d = some (.xd fs) ∧ XfC K C ∧ PySem.W.findIn K (.ref C) f = some none ∧ fs.lookup f = some v ∧ Q v H1
theorem pe_xv {e : Expr} {te : TE} {pos : Pos} {n : Str} (he : PE X e te) (hb : attributeBase e n X.env (eval e X.env) = eval e X.env := by rfl) : PE X (.Attribute e n pos) (tXv X.K n te) := by
  refine ⟨fun pins s σ H Q I h => ?_⟩
  refine attr_of hb (thn (he.run pins s σ H _ I h) fun u s1 hh => ?_)
  obtain ⟨x, H1, I1, rx, a, C, d, fs, v, ex, ea, ed, T, hno, l, q⟩ := hh
  subst ex
  obtain rfl : u = Value.ref a := rx
  obtain ⟨oe, od, mA, J, hl, hr⟩ := exv_inst I1.hok ea ed
  obtain ⟨u, hu, ru⟩ := RelO.some_of (v := v) (o := mA n) (by rw [← l]; exact hr n)
  exact HandSPX.exc_get I1.kIn J T.ga T.gg T.exC (PySem.W.findObj_own T.hdC hno rfl (by rw [hl, hu])) (handed_of ru) ⟨v, H1, I1.tok _, ru, q⟩
/-- isinstance(e, c) of a kept error, c one class -/
def rIsV (K : PySem.W.Frag) : List V → Hp → VK → Prop := fun xs H Q => ∃ (a C d : Addr) (fs : List (Str × V)) (c : V) (u : Value) (b : Bool), xs = [.ref a, c] ∧ H a = some (exv a C d) ∧ H d = some (.xd fs) ∧ ExcC K C ∧ ClsV c u ∧ PySem.W.kitOne K (.ref C) u = some b ∧ Q (.bl b) H
/-- .. c a tuple of classes -/
def rIsVT (K : PySem.W.Frag) : List V → Hp → VK → Prop := fun xs H Q => ∃ (a C d : Addr) (fs : List (Str × V)) (tp : Addr) (cs : List V) (us : List Value) (b : Bool), xs = [.ref a, .ref tp] ∧ H a = some (exv a C d) ∧ H d = some (.xd fs) ∧ ExcC K C ∧ H tp = some (.tup cs) ∧ Paired ClsV cs us ∧ PySem.W.kitAny K (.ref C) us = some b ∧ Q (.bl b) H
theorem call_isV : CallR X (.builtin "isinstance") (rIsV X.K) := by
  intro pins s σ H xs us Q I r h
  obtain ⟨a, C, d, fs, c, u, b, rfl, ha, hd, T, k, e, q⟩ := h
  obtain ⟨u1, u2, rfl, r1, r2⟩ := vals2 r
  cases (show u1 = Value.ref a from r1)
  have e2 := k.eq r2
  subst e2
  obtain ⟨oe, od, mA, J, _, _⟩ := exv_inst I.hok ha hd
  exact PySem.W.kia_one (PySem.W.kitx_exc (by obtain ⟨cd, hc, _⟩ := PySem.W.any_some T.hd; rw [hc]; rfl) T.hg T.hk T.hs T.ha T.hn T.ht T.hm) I.kIn J e (fun z => nomatch z) fun tk => ⟨.bl b, H, I.tok tk, rfl, q⟩
theorem call_isVT : CallR X (.builtin "isinstance") (rIsVT X.K) := by
  intro pins s σ H xs us Q I r h
  obtain ⟨a, C, d, fs, tp, cs, ws, b, rfl, ha, hd, T, hT, k, e, q⟩ := h
  obtain ⟨u1, u2, rfl, r1, r2⟩ := vals2 r
  cases (show u1 = Value.ref a from r1)
  cases (show u2 = Value.ref tp from r2)
  obtain ⟨oe, od, mA, J, _, _⟩ := exv_inst I.hok ha hd
  obtain ⟨_, its, rv, o, h1, h2, n, h3⟩ := (show ObjOk X.prog X.w H s.heap tp (.tup cs) from I.hok tp _ hT)
  have e3 := ClsV.all k rv
  subst e3
  obtain ⟨oc, od2, dt, sl⟩ := o
  simp only at h2 h3
  subst h2 h3
  exact PySem.W.kia_tup (PySem.W.kitx_exc (by obtain ⟨cd, hc, _⟩ := PySem.W.any_some T.hd; rw [hc]; rfl) T.hg T.hk T.hs T.ha T.hn T.ht T.hm) I.kIn J h1 e (fun z => nomatch z) fun tk => ⟨.bl b, H, I.tok tk, rfl, q⟩
end
/-! ### len(o), repr(o) by an own method -/
section
variable {X : Cx} {CX : CXT} {k : Nat} {f C : Addr} {fd : FuncData} {ps : List Str} {sp : Sp} {E : XK}
/-- a one-argument own special method called from within a builtin -/
def rOwn1 (C : Addr) (sp : Sp) (E : XK) (g : V → Prop) : List V → Hp → VK → Prop := fun xs H Q => ∃ a dx fs, xs = [.ref a] ∧ H a = some (.ins C dx fs) ∧ sp [.ref a] H (fun v H' => g v ∧ Q v H') E
theorem call_lenOwn (c : Cls X.K C) (hs : PySem.W.findIn X.K (.ref C) "__len__" = some (some (.ref f))) (hf : PySem.W.isFn X.K (.ref f) = true) (F : FnOk X.prog X.w X.K X.mg X.base CX k f fd ps sp) (hr : Room (k + 1) X.A) (hb : Binds X.K fd ps [])
    (hx : Passes CX X E) : CallR X (.builtin "len") (rOwn1 C sp E fun v => ∃ n : Int, v = .int n ∧ 0 ≤ n ∧ n < 2 ^ 63) := by
  intro pins s σ H xs us Q I r h
  obtain ⟨a, dx, fs, rfl, ha, q⟩ := h
  obtain ⟨u, rfl, ru⟩ := vals1 r
  cases (show u = Value.ref a from ru)
  obtain ⟨mA, O, _⟩ := ins_get I.hok ha
  obtain ⟨od, J, _⟩ := O.look
  obtain ⟨m, hF⟩ := I.fr
  refine PySem.W.len_K hF I.ok.mod.kin J hs hf ?_
  have e0 : Env0 X.prog X.w X.K X.mg X.base X.A.in1 X.stack s H := I.env0.in1
  have hl := F.len _ _ _ _ q
  refine wpAny_call (codeAny_mono (F.run X.A.in1 X.stack s H ⟨[.ref a], []⟩ [.ref a] [.ref a] _ E hr.in1 e0 (by
    have := hb s [.ref a] I.kIn (by simpa using hl)
    simpa using this) (.cons rfl .nil) q) fun r s' hq => ?_)
  cases r with
  | error e => exact hx pins σ H s e s' I hq
  | ok fl =>
    cases fl with
    | ret w =>
      obtain ⟨z, H', I', rz, ⟨n, ez, h0, h1⟩, ex⟩ := I.after hq
      subst ez
      obtain ⟨t, ez⟩ := (show ∃ t, w = Value.int n t from rz)
      subst ez
      exact ⟨⟨h0, h1⟩, .int n, H', I'.tok _, ⟨_, rfl⟩, ex⟩
    | next => exact False.elim hq
    | brk => exact False.elim hq
    | cont => exact False.elim hq
theorem call_reprOwn (c : Cls X.K C) (hs : PySem.W.findIn X.K (.ref C) "__repr__" = some (some (.ref f))) (hf : PySem.W.isFn X.K (.ref f) = true) (F : FnOk X.prog X.w X.K X.mg X.base CX k f fd ps sp) (hr : Room (k + 1) X.A) (hb : Binds X.K fd ps [])
    (hx : Passes CX X E) : CallR X (.builtin "repr") (rOwn1 C sp E fun v => ∃ z : Str, v = .str z) := by
  intro pins s σ H xs us Q I r h
  obtain ⟨a, dx, fs, rfl, ha, q⟩ := h
  obtain ⟨u, rfl, ru⟩ := vals1 r
  cases (show u = Value.ref a from ru)
  obtain ⟨mA, O, _⟩ := ins_get I.hok ha
  obtain ⟨od, J, _⟩ := O.look
  obtain ⟨m, hF⟩ := I.fr
  refine PySem.W.repr_K hr.in1.units0 hF I.ok.mod.kin J hs hf ?_
  have e0 : Env0 X.prog X.w X.K X.mg X.base X.A.in1 X.stack s H := I.env0.in1
  have hl := F.len _ _ _ _ q
  refine wpAny_call (codeAny_mono (F.run X.A.in1 X.stack s H ⟨[.ref a], []⟩ [.ref a] [.ref a] _ E hr.in1 e0 (by
    have := hb s [.ref a] I.kIn (by simpa using hl)
    simpa using this) (.cons rfl .nil) q) fun r s' hq => ?_)
  cases r with
  | error e => exact hx pins σ H s e s' I hq
  | ok fl =>
    cases fl with
    | ret w =>
      obtain ⟨z, H', I', rz, ⟨n, ez⟩, ex⟩ := I.after hq
      subst ez
      obtain ⟨t, ez⟩ := (show ∃ t, w = Value.str n t from rz)
      subst ez
      exact ⟨.str n, H', I', ⟨_, rfl⟩, ex⟩
    | next => exact False.elim hq
    | brk => exact False.elim hq
    | cont => exact False.elim hq
end
/-! ### a != b by an own __eq__ -/
section
variable {prog : Program} {w : World} {A : Around} {E : Value → Shared → Prop} {s : Shared} {K : PySem.W.Frag} {x y C f : Addr} {ox oy : Obj} {od od' : Option Obj}
open PySem.W in
theorem ifBound_ne {args : List Value} {Q : Option Value → Shared → Prop} (X : K.In s.heap) (I : PySem.W.InstAt s.heap x ox C od) (hs : PySem.W.findIn K (.ref C) "__ne__" = some (some (.builtin "object.__ne__")))
    (h : wpAny (model prog w) A (call (.builtin "object.__ne__") (.ref x :: args)) (fun v => Q (some v)) E s) : wpAny (model prog w) A (callSpecialIfBound? (.ref x) "__ne__" args) Q E s := by
  simp only [callSpecialIfBound?, bindSpecialIfBound?]
  refine wpAny_holding (wpAny_bind (wpAny_bind (wpAny_bind (I.type.here ((looks_findIn X hs).here ?_)))))
  refine wpAny_bind (wpAny_askSetting (wpAny_ite ?_))
  have fin : wpAny (model prog w) A (call (.builtin "object.__ne__") ([.ref x] ++ args) >>= fun v => pure (some v)) Q E s := wpAny_bind (wpAny_mono h (fun v s' h' => wpAny_pure h') fun _ _ h' => h')
  have bd : bindSpecial (.builtin "object.__ne__") (.ref x) = pure (.builtin "object.__ne__", [.ref x]) := PySem.F.cmp_object.ne.bind (.ref x)
  split
  · rw [bd]
    exact wpAny_bind (wpAny_pure (wpAny_pure (by exact fin)))
  · rw [bd]
    exact wpAny_tryCatch (wpAny_bind (wpAny_pure (wpAny_pure (by exact fin))))
open PySem.W in
theorem ne_own {Q : Value → Shared → Prop} (hu : A.units + 1 < cLine) (X : K.In s.heap) (I : PySem.W.InstAt s.heap x ox C od) (I' : PySem.W.InstAt s.heap y oy C od') (hn : PySem.W.findIn K (.ref C) "__ne__" = some (some (.builtin "object.__ne__")))
    (he : PySem.W.findIn K (.ref C) "__eq__" = some (some (.ref f))) (hf : PySem.W.isFn K (.ref f) = true) (hm : PySem.W.mroIn K C (.type "object") = some true)
    (h : wpAny (model prog w) A.in1 (call (.ref f) [.ref x, .ref y]) (fun v s' => ∃ b, v = .bool b ∧ Q (.bool (!b)) s') E s) : wpAny (model prog w) A (richCompare .NotEq (.ref x) (.ref y)) Q E s := by
  have sub : PySem.W.Looks (model prog w) s.heap (isInstance (.ref x) (.type "object")) true := I.type.andThen (PySem.W.looks_mroIn X hm)
  have one : wpAny (model prog w) A (tryCompare (.ref x) "__ne__" (.ref y)) (fun r s' => ∃ b, r = some (.bool (!b)) ∧ Q (.bool (!b)) s') E s := by
    unfold tryCompare
    refine wpAny_bind (ifBound_ne X I hn (wpAny_call (codeAny_call_builtin PySem.F.cmp_object.ne.plain PySem.F.cmpEntry_ne (PySem.W.check_slot PySem.F.cmpKind_ne PySem.F.cmpSplit_ne sub (PySem.F.cmpArgs_ne _ _) ?_))))
    unfold Builtin.«object.__ne__»
    refine wpAny_bind (m := slotArgs "__ne__" 1 _) (wpAny_pure (wpAny_bind (wpAny_cRoomFor (show A.in1.units < cLine from hu) ?_)))
    refine wpAny_bind (m := callSpecialIfBound? (.ref x) (Str.ofString "__eq__") _) (ifBound_K X I he hf (wpAny_mono h (fun v s' hv => ?_) fun _ _ e => e))
    obtain ⟨b, rfl, q⟩ := hv
    refine wpAny_bind (wpAny_truthy_bool (wpAny_pure ?_))
    exact (by first | exact wpAny_pure ⟨b, rfl, q⟩ | exact ⟨_, rfl, wpAny_pure ⟨b, rfl, q⟩⟩)
  unfold richCompare
  simp only [oneThing_ref]
  refine wpAny_holding (wpAny_bind (wpAny_cRoomFor (Nat.lt_of_succ_lt hu) ?_))
  refine wpAny_bind (I.type.here (wpAny_bind (I'.type.here ?_)))
  rw [show (Value.ref C != Value.ref C) = false from by simp]
  simp only [Bool.false_eq_true, if_false]
  refine wpAny_bind (wpAny_pure ?_)
  simp only [Bool.false_eq_true, if_false]
  refine wpAny_bind (wpAny_mono one (fun r s' z => ?_) fun _ _ e => e)
  obtain ⟨b, rfl, hq⟩ := z
  exact wpAny_pure hq
end
section
variable {X : Cx} {CX : CXT} {k : Nat} {f C : Addr} {fd : FuncData} {ps : List Str} {sp : Sp} {E : XK}
/-- a != b of two instances of the class at C with an own __eq__ (no own __ne__) -/
def rNeO (C : Addr) (sp : Sp) (E : XK) : R2 := fun x y H Q => ∃ a b dx dy fs gs, x = .ref a ∧ y = .ref b ∧ H a = some (.ins C dx fs) ∧ H b = some (.ins C dy gs) ∧ sp [.ref a, .ref b] H (fun v H' => ∃ c, v = .bl c ∧ Q (.bl (!c)) H') E
theorem op_neOwn (he : PySem.W.findIn X.K (.ref C) "__eq__" = some (some (.ref f))) (hn : PySem.W.findIn X.K (.ref C) "__ne__" = some (some (.builtin "object.__ne__"))) (hm : PySem.W.mroIn X.K C (.type "object") = some true)
    (hf : PySem.W.isFn X.K (.ref f) = true) (F : FnOk X.prog X.w X.K X.mg X.base CX k f fd ps sp) (hr : Room (k + 1) X.A) (hb : Binds X.K fd ps []) (hx : Passes CX X E) : OpR X (compareOp .NotEq) (rNeO C sp E) := by
  intro pins s σ H x y v u Q I rx ry h
  obtain ⟨a, b, dx, dy, fs, gs, rfl, rfl, ha, hb', q⟩ := h
  cases rx
  cases ry
  obtain ⟨mA, J, _⟩ := ins_get I.hok ha
  obtain ⟨mB, J', _⟩ := ins_get I.hok hb'
  obtain ⟨od, J, _⟩ := J.look
  obtain ⟨od', J', _⟩ := J'.look
  show wpAny (model X.prog X.w) X.A (richCompare .NotEq (.ref a) (.ref b)) (EP X pins σ Q) X.xe s
  refine ne_own (by have := hr.units; omega) I.kIn J J' hn he hf hm ?_
  have hl := F.len _ _ _ _ q
  have r2 : Vals [V.ref a, V.ref b] [Value.ref a, Value.ref b] := .cons rfl (.cons rfl .nil)
  refine wpAny_call (codeAny_mono (F.run X.A.in1 X.stack s H ⟨[.ref a, .ref b], []⟩ [.ref a, .ref b] [.ref a, .ref b] _ E hr.in1 I.env0.in1 (by
    have := hb s [.ref a, .ref b] I.kIn (by simpa using hl)
    simpa using this) r2 q) fun r s' hq => ?_)
  cases r with
  | error e => exact hx pins σ H s e s' I hq
  | ok fl =>
    cases fl with
    | ret w =>
      obtain ⟨z, H', I', rz, ⟨c, ec, ex⟩⟩ := I.after hq
      subst ec
      cases rz
      exact ⟨c, rfl, .bl (!c), H', I', rfl, ex⟩
    | next => exact False.elim hq
    | brk => exact False.elim hq
    | cont => exact False.elim hq
end
end Tw
set_option Elab.async false
set_option linter.all false
set_option maxRecDepth 100000
set_option maxHeartbeats 4000000
/-! sorted of a tuple of ints, count of truths, four names at once, a method with keywords, zip in a comprehension -/
namespace Tw
open PySem PySem.Spec PyProof.Rows L2
section
variable {X : Cx}
/-- sorted(t), t a tuple of ints -/
def rSortedT (K : PySem.W.Frag) : List V → Hp → VK → Prop := fun vs H Q => ∃ (a : Addr) (ns : List Int), vs = [V.ref a] ∧ SqT K H a (ns.map V.int) ∧
  ∀ (ns' : List Int) (p : Addr), ns'.Perm ns → ns'.Pairwise (· ≤ ·) → H p = none → Q (.ref p) (upd H p (.lst (ns'.map V.int)))
theorem cr_sortedT : CallR X (.builtin "sorted") (rSortedT X.K) := by
  intro pins s σ H vs us Q I r h
  obtain ⟨a, ns, rfl, hs, q⟩ := h
  obtain ⟨its, rv, hl, hz⟩ := I.tuple hs
  rw [Vals.ref1 r]
  have hi := rv.ints
  obtain ⟨o, ho, hc, n, hd⟩ := id hl
  have hz' : its.length ≤ sizeLine := by rw [← rv.length]; exact hz
  refine Calls.call_function_entry PyProof.Rows.kind_sorted PyProof.Rows.plain_sorted PyProof.Rows.entry_sorted (PyProof.Rows.args_sorted1 _) ?_
  unfold Builtin.«sorted»
  refine wpAny_bind (m := checkCount "sorted" 1 1 _) (wpAny_pure ?_)
  refine wpAny_bind (wpAny_collect_seq a (.inr rfl) ho hc hd (fun h1 k1 => ?_) (by rw [List.size_toArray]; exact hz'))
  have I1 : Inv X pins σ H { s with heap := h1 } := I.kept (t' := s.toks) k1
  refine wpAny_bind (wpAny_newList ?_ hz')
  have hpn : H h1.objs.size = none := I1.hok.fresh (Nat.le_refl _)
  have hoL : (h1.push (seqObj "list" its.toArray 0)).get? h1.objs.size = some (seqObj "list" its.toArray 0) := Heap.get?_push_size _ rfl
  have I2 : Inv X pins σ (upd H h1.objs.size (.lst (ns.map V.int))) { s with heap := h1.push (seqObj "list" its.toArray 0) } :=
    I1.laid (t' := s.toks) (fun b u e => Heap.get?_push_of_some _ e) (Nat.le_refl _) ⟨hz, its, 0, rv, hoL⟩
  show wpAny _ _ _ _ _ { s with heap := h1.push (seqObj "list" its.toArray 0) }
  refine wpAny_bind (wpAny_holding (wpAny_call_entry PyProof.Rows.slot_list_sort ⟨_, hoL, rfl⟩ PyProof.Rows.entry_list_sort (SrtO.list_sort_ord SrtO.swo_int hoL hz' (fun h2 => SrtO.ints_sortable hi h2) fun out g1 g2 => ⟨_, rfl, ?_⟩) (PyProof.Rows.args_list_sort _)))
  obtain ⟨j1, j2, j3⟩ := SrtO.ints_out hi g1 g2
  obtain ⟨ep, he'⟩ := PyProof.Rows.sortedHeap_at (vs := its) (out := out.toArray) hoL
  have hlen : ((out.map SrtO.iv).map V.int).length ≤ sizeLine := by
    rw [List.length_map, j2.length_eq]
    rw [List.length_map] at hz
    exact hz
  have I3 : Inv X pins σ (upd (upd H h1.objs.size (.lst (ns.map V.int))) h1.objs.size (.lst ((out.map SrtO.iv).map V.int))) { s with heap := PyProof.Rows.sortedHeap (h1.push (seqObj "list" its.toArray 0)) h1.objs.size its out.toArray } :=
    I2.write (e := h1.objs.size) (t' := s.toks) (by rw [upd_same]; trivial) (.inl rfl) (fun b u hb hu => by rw [PyProof.Rows.sortedHeap_old hb (Heap.lt_size hu)]; exact hu) ⟨_, he'⟩ ⟨hlen, out, ep, vals_of_ints j1, he'⟩
  rw [upd_upd] at I3
  have fin : EP X pins σ Q (.ref h1.objs.size) { s with heap := PyProof.Rows.sortedHeap (h1.push (seqObj "list" its.toArray 0)) h1.objs.size its out.toArray } := ⟨.ref _, _, I3, rfl, q _ _ j2 j3 hpn⟩
  first
    | exact wpAny_pure ⟨_, rfl, fin⟩
    | exact wpAny_pure fin
/-- xs.count(y), xs and y flat -/
def rCountF (K : PySem.W.Frag) : V → List V → Hp → VK → Prop := fun x xs H Q => ∃ (a : Addr) (ys : List V) (y : V), x = V.ref a ∧ xs = [y] ∧ H a = some (.lst ys) ∧ flatV y = true ∧ ys.all flatV = true ∧ Q (.int (ys.countP (fun z => eqV z y) : Nat)) H
theorem mt_countF : MtR X "list.count" (rCountF X.K) := by
  intro pins s σ H x xs v us Q I rx rxs h
  obtain ⟨a, ys, y, rfl, rfl, ha, fy, fys, q⟩ := h
  cases rx
  obtain ⟨u, rfl, ru⟩ := rxs.one
  obtain ⟨hz, its, n, rv, hob⟩ := I.hok a _ ha
  refine call_meets PySem.F.slot_list_count ⟨_, hob, rfl⟩ PySem.F.entry_list_count (PySem.F.args_list_count_2 _ _)
    (SeqAt.list_countAt a its.toArray n none #[] u (eqU y)) ⟨hob, fun z hz' => mem_eqAt ru fy rv fys z (by simpa using hz'), ?_⟩
  have ec : its.countP (eqU y) = ys.countP (fun z => eqV z y) := by
    clear hob hz q ha
    induction rv with
    | nil => rfl
    | @cons z w zs ws r1 r2 ih =>
      have fz := List.all_eq_true.mp fys
      have f1 : flatV z = true := fz z List.mem_cons_self
      have f2 : zs.all flatV = true := List.all_eq_true.mpr fun t ht => fz t (List.mem_cons_of_mem _ ht)
      rw [List.countP_cons, List.countP_cons, ih f2, eqU_of r1 f1]
  refine ⟨.int (ys.countP (fun z => eqV z y) : Nat), H, I.tok _, ⟨s.toks, ?_⟩, q⟩
  show Value.int ((its.toArray.toList.countP (eqU y) : Nat) : Int) s.toks = Value.int ((ys.countP (fun z => eqV z y) : Nat) : Int) s.toks
  rw [show its.toArray.toList = its by simp, ec]
end
/-! ### o.m(e, .., k = v, ..) of a method that raises nothing -/
def tMethN (C : Addr) (m : Str) (n nk : Nat) (sp : Sp) (gV : List V → List V → List V) (ta : TE) (t tk : TA) : TE := fun σ H Q => ta σ H fun x H1 => ∃ a dx fs, x = .ref a ∧ H1 a = some (.ins C dx fs) ∧ fs.lookup m = none ∧
  t σ H1 fun vs H2 => tk σ H2 fun zs H3 => (x :: vs).length = n ∧ zs.length = nk ∧ sp (gV (x :: vs) zs) H3 Q E0
section
variable {X : Cx} {k n : Nat} {f C : Addr} {fd : FuncData} {ps ks : List Str} {sp : Sp} {m : Str} {p pos apos : Pos} {e o : Expr} {es : List Expr} {kws : List Keyword} {ta : TE} {t tk : TA} {g : List Value → List Value → List Value} {gV : List V → List V → List V}
theorem pe_methN {pl : Sem Bool} (he : PE X o ta) (c : Cls X.K C) (hm : Meth X.K C m f) (F : FnOk X.prog X.w X.K X.mg X.base CX0 k f fd ps sp) (hr : Room k X.A) (hb : KBn X.K fd ps n ks g gV) (ha : PA X (e :: es) t) (hkw : PK X kws tk)
    (hall : (backToKw pos (keywordEach kws X.env)).all (·.1.isSome) = true := by rfl) (hks : (backToKw pos (keywordEach kws X.env)).filterMap (·.1) = ks := by rfl)
    (hst : starEach (e :: es) X.env = (false, eval e X.env) :: starEach es X.env := by rfl)
    (hpl : ((backTo pos (starEach (e :: es) X.env)).any (·.1) || (backToKw pos (keywordEach kws X.env)).any (·.1.isNone)) = false := by rfl)
    (ht : eval (.Call (.Attribute o m apos) (e :: es) kws pos) X.env = (do
      let ov ← eval o X.env
      standAt apos.atName
      let (f, first) ← holding [ov] (getMethod ov m pl)
      callWith pos f first (backTo pos (starEach (e :: es) X.env)) (backToKw pos (keywordEach kws X.env))) := by rfl) :
    PE X (.Call (.Attribute o m apos) (e :: es) kws pos) (tMethN C m n ks.length sp gV ta t tk) := by
  refine ⟨fun pins s σ H Q I h => ?_⟩
  refine PySem.W.methodCall_KW (pl := pl) (thn (he.run pins s σ H _ I h) fun u s1 ⟨x, H1, I1, rx, a, dx, fs, ex, ea, l, q⟩ => ?_) ht
  subst ex
  obtain rfl : u = Value.ref a := rx
  refine getmeth_ok I1 ea c hm l ?_
  refine PySem.W.callWith_KW (first := [.ref a]) (h₀ := X.base) I.ok.mod.kin hm.kp hall (thn (ha.run pos pins s1 σ H1 _ I1 q) fun us s2 ⟨vs, H2, I2, r, q2⟩ => ?_) hpl hst
  refine thn (hkw.run pos pins s2 σ H2 _ I2 q2) fun ws s3 ⟨zs, H3, I3, rz, l1, l2, q3⟩ => ⟨I3.kIn, ?_⟩
  rw [hks]
  exact run_fnN (us := .ref a :: us) (vs := .ref a :: vs) F hr hb pass0 I3 (.cons rfl r) rz l1 l2 q3
end
/-! ### [.. for a, b in zip(x, y)] over two lists, two tuples of one length -/
theorem lc_zipL {K : PySem.W.Frag} {a b : Addr} {xs ys : List V} {g : TG} {tt : TT} {te : TE} {vs : List Nat} {σ : L2.St} {H1 : Hp} {D : Addr} {Qd : Hp → Prop} (hl : xs.length = ys.length) (Pv : Nat → Hp → Prop) (h0 : Pv 0 (upd H1 D (.lst []))) (hq : ∀ i H, Pv i H → SqL K H a xs ∧ SqL K H b ys)
    (hs : ∀ (i : Nat) (x y : V) (T : Addr) (H : Hp), xs[i]? = some x → ys[i]? = some y → Pv i H → H T = none → g (.ref T) (wipe σ vs) (upd H T (.tup [x, y])) fun σ2 H2 => wipe σ2 vs = wipe σ vs ∧ tt σ2 H2 fun b H3 => if b = true then te σ2 H3 fun v H4 => ∃ acc, H4 D = some (.lst acc) ∧ acc.length < sizeLine ∧ Pv (i + 1) (upd H4 D (.lst (acc ++ [v]))) else Pv (i + 1) H3)
    (hd : ∀ H, Pv xs.length H → Qd H) :
    ∃ W : Nat → Nat → Hp → Prop, (∃ m, W 0 m (upd H1 D (.lst []))) ∧ ∀ i m H, W i m H →
      ((Itz K a b).stop i H ∧ Qd H) ∨ ((Itz K a b).go i H ∧ ∃ Nx : Hp → Prop, (∀ H', Nx H' → ∃ m', m' < m ∧ W (i + 1) m' H') ∧ ∀ x H', (Itz K a b).yld i H x H' → g x (wipe σ vs) H' fun σ2 H2 => wipe σ2 vs = wipe σ vs ∧ tt σ2 H2 fun b H3 =>
        if b = true then te σ2 H3 fun v H4 => ∃ acc, H4 D = some (.lst acc) ∧ acc.length < sizeLine ∧ Nx (upd H4 D (.lst (acc ++ [v]))) else Nx H3) := by
  refine ⟨fun i m H => m = xs.length - i ∧ i ≤ xs.length ∧ Pv i H, ⟨xs.length, by simp, Nat.zero_le _, h0⟩, ?_⟩
  rintro i m H ⟨rfl, hi, p⟩
  obtain ⟨qx, qy⟩ := hq i H p
  by_cases hlt : i < xs.length
  · have hx : xs[i]? = some xs[i] := List.getElem?_eq_getElem hlt
    have hlt2 : i < ys.length := by omega
    have hy : ys[i]? = some ys[i] := List.getElem?_eq_getElem hlt2
    refine .inr ⟨⟨xs, ys, _, _, qx, qy, hx, hy⟩, Pv (i + 1), fun H' p' => ⟨xs.length - (i + 1), by omega, rfl, hlt, p'⟩, fun v H' y => ?_⟩
    obtain ⟨T, x', y', rfl, hT, rfl, f1, f2⟩ := y
    exact hs i x' y' T H (f1 xs qx) (f2 ys qy) p hT
  · have e : i = xs.length := by omega
    subst e
    exact .inl ⟨⟨xs, ys, qx, qy, Or.inl (Nat.le_refl _)⟩, hd H p⟩
theorem lc_zipT {K : PySem.W.Frag} {a b : Addr} {xs ys : List V} {g : TG} {tt : TT} {te : TE} {vs : List Nat} {σ : L2.St} {H1 : Hp} {D : Addr} {Qd : Hp → Prop} (hl : xs.length = ys.length) (Pv : Nat → Hp → Prop) (h0 : Pv 0 (upd H1 D (.lst []))) (hq : ∀ i H, Pv i H → SqT K H a xs ∧ SqT K H b ys)
    (hs : ∀ (i : Nat) (x y : V) (T : Addr) (H : Hp), xs[i]? = some x → ys[i]? = some y → Pv i H → H T = none → g (.ref T) (wipe σ vs) (upd H T (.tup [x, y])) fun σ2 H2 => wipe σ2 vs = wipe σ vs ∧ tt σ2 H2 fun b H3 => if b = true then te σ2 H3 fun v H4 => ∃ acc, H4 D = some (.lst acc) ∧ acc.length < sizeLine ∧ Pv (i + 1) (upd H4 D (.lst (acc ++ [v]))) else Pv (i + 1) H3)
    (hd : ∀ H, Pv xs.length H → Qd H) :
    ∃ W : Nat → Nat → Hp → Prop, (∃ m, W 0 m (upd H1 D (.lst []))) ∧ ∀ i m H, W i m H →
      ((RZ.ItzT K a b).stop i H ∧ Qd H) ∨ ((RZ.ItzT K a b).go i H ∧ ∃ Nx : Hp → Prop, (∀ H', Nx H' → ∃ m', m' < m ∧ W (i + 1) m' H') ∧ ∀ x H', (RZ.ItzT K a b).yld i H x H' → g x (wipe σ vs) H' fun σ2 H2 => wipe σ2 vs = wipe σ vs ∧ tt σ2 H2 fun b H3 =>
        if b = true then te σ2 H3 fun v H4 => ∃ acc, H4 D = some (.lst acc) ∧ acc.length < sizeLine ∧ Nx (upd H4 D (.lst (acc ++ [v]))) else Nx H3) := by
  refine ⟨fun i m H => m = xs.length - i ∧ i ≤ xs.length ∧ Pv i H, ⟨xs.length, by simp, Nat.zero_le _, h0⟩, ?_⟩
  rintro i m H ⟨rfl, hi, p⟩
  obtain ⟨qx, qy⟩ := hq i H p
  by_cases hlt : i < xs.length
  · have hx : xs[i]? = some xs[i] := List.getElem?_eq_getElem hlt
    have hlt2 : i < ys.length := by omega
    have hy : ys[i]? = some ys[i] := List.getElem?_eq_getElem hlt2
    refine .inr ⟨⟨xs, ys, _, _, qx, qy, hx, hy⟩, Pv (i + 1), fun H' p' => ⟨xs.length - (i + 1), by omega, rfl, hlt, p'⟩, fun v H' y => ?_⟩
    obtain ⟨T, x', y', rfl, hT, rfl, f1, f2⟩ := y
    exact hs i x' y' T H (f1 xs qx) (f2 ys qy) p hT
  · have e : i = xs.length := by omega
    subst e
    exact .inl ⟨⟨xs, ys, qx, qy, Or.inl (Nat.le_refl _)⟩, hd H p⟩
end Tw
set_option Elab.async false
set_option linter.all false
set_option maxRecDepth 100000
set_option maxHeartbeats 4000000
/-! data in the heap; the shed's states in plain Lean -/
namespace Tw
open PySem PySem.Spec PyProof.Rows L2
/-! ### what is kept -/
/-- all that was tracked is as it was, but the lists of M -/
def Keep (M : Addr → Prop) (H H' : Hp) : Prop := ∀ b o, H b = some o → (M b → ∀ xs, o ≠ .lst xs) → H' b = some o
theorem Keep.refl {M : Addr → Prop} {H : Hp} : Keep M H H := fun _ _ h _ => h
theorem Keep.of {M : Addr → Prop} {H H' : Hp} (h : Same H H') : Keep M H H' := fun b o e _ => h b o e
theorem Keep.trans {M : Addr → Prop} {H H1 H2 : Hp} (a : Keep M H H1) (b : Keep M H1 H2) : Keep M H H2 := fun c o e n => b c o (a c o e n) n
theorem Keep.mono {M M' : Addr → Prop} {H H' : Hp} (a : Keep M H H') (h : ∀ b, M b → M' b) : Keep M' H H' := fun c o e n => a c o e fun m => n (h c m)
/-- what was made meanwhile may be thrown away -/
theorem Keep.drop {M M' : Addr → Prop} {H H' : Hp} (a : Keep M' H H') (h : ∀ b, M' b → M b ∨ H b = none) : Keep M H H' := fun c o e n => a c o e fun m => by
  rcases h c m with z | z
  · exact n z
  · rw [z] at e
    cases e
theorem Keep.same {M : Addr → Prop} {H H' : Hp} (a : Keep M H H') (h : ∀ b, M b → H b = none) : Same H H' := fun c o e => a c o e fun m => by
  rw [h c m] at e
  cases e
theorem Keep.new {M : Addr → Prop} {H : Hp} {p : Addr} {o : HO} (h : H p = none) : Keep M H (upd H p o) := fun b u e _ => by rw [upd_ne (ne_of_none e h)]; exact e
theorem Keep.set {M : Addr → Prop} {H : Hp} {p : Addr} {xs ys : List V} (h : H p = some (.lst xs)) (m : M p) : Keep M H (upd H p (.lst ys)) := fun b u e n => by
  by_cases z : b = p
  · rw [z, h] at e
    exact absurd (Option.some.inj e).symm (n (z ▸ m) xs)
  · rw [upd_ne z]
    exact e
theorem Same.new {H : Hp} {p : Addr} {o : HO} (h : H p = none) : Same H (upd H p o) := fun b u e => by rw [upd_ne (ne_of_none e h)]; exact e
theorem Keep.lst {M : Addr → Prop} {H H' : Hp} {p : Addr} {xs : List V} (a : Keep M H H') (h : H p = some (.lst xs)) (n : ¬ M p) : H' p = some (.lst xs) := a p _ h fun m => absurd m n
theorem Keep.tup {M : Addr → Prop} {H H' : Hp} {p : Addr} {xs : List V} (a : Keep M H H') (h : H p = some (.tup xs)) : H' p = some (.tup xs) := a p _ h fun _ ys z => by cases z
theorem Keep.ins {M : Addr → Prop} {H H' : Hp} {p C dx : Addr} {fs : List (Str × V)} (a : Keep M H H') (h : H p = some (.ins C dx fs)) : H' p = some (.ins C dx fs) := a p _ h fun _ ys z => by cases z
theorem Keep.old {M : Addr → Prop} {H H' : Hp} {p : Addr} {xs : List V} (a : Keep M H H') (h : H' p = none) (n : ¬ M p) : ∀ {o}, H p = some o → False := fun {o} e => by
  rw [a p o e fun m => absurd m n] at h
  cases h
/-! ### data; its lists stand outside M -/
mutual
def DA (M : Addr → Prop) (H : Hp) : PyData → V → Prop
  | .none, v => v = .non
  | .bool b, v => v = .bl b
  | .int i, v => v = .int i
  | .str s, v => v = .str s
  | .list ds, v => ∃ a xs, v = .ref a ∧ H a = some (.lst xs) ∧ ¬ M a ∧ DAs M H ds xs
  | .tuple ds, v => ∃ a xs, v = .ref a ∧ H a = some (.tup xs) ∧ DAs M H ds xs
  | .dict _, _ => False
def DAs (M : Addr → Prop) (H : Hp) : List PyData → List V → Prop
  | [], xs => xs = []
  | d :: ds, xs => ∃ x r, xs = x :: r ∧ DA M H d x ∧ DAs M H ds r
end
/-- no lists at all -/
abbrev Tp : Addr → Prop := fun _ => True
/-- any lists -/
abbrev Bt : Addr → Prop := fun _ => False
section
variable {M M' : Addr → Prop} {H H' : Hp}
mutual
theorem DA.keep (k : Keep M' H H') (h : ∀ b, M' b → M b) : ∀ (d : PyData) (v : V), DA M H d v → DA M H' d v
  | .none, _, e => by unfold DA at e ⊢; exact e
  | .bool _, _, e => by unfold DA at e ⊢; exact e
  | .int _, _, e => by unfold DA at e ⊢; exact e
  | .str _, _, e => by unfold DA at e ⊢; exact e
  | .list ds, _, e => by
    unfold DA at e ⊢
    obtain ⟨a, xs, e1, e2, e3, e4⟩ := e
    exact ⟨a, xs, e1, k.lst e2 fun m => e3 (h a m), e3, DAs.keep k h ds xs e4⟩
  | .tuple ds, _, e => by
    unfold DA at e ⊢
    obtain ⟨a, xs, e1, e2, e4⟩ := e
    exact ⟨a, xs, e1, k.tup e2, DAs.keep k h ds xs e4⟩
  | .dict _, _, e => by unfold DA at e; exact e.elim
theorem DAs.keep (k : Keep M' H H') (h : ∀ b, M' b → M b) : ∀ (ds : List PyData) (xs : List V), DAs M H ds xs → DAs M H' ds xs
  | [], _, e => by unfold DAs at e ⊢; exact e
  | d :: ds, _, e => by
    unfold DAs at e ⊢
    obtain ⟨x, r, e1, e2, e3⟩ := e
    exact ⟨x, r, e1, DA.keep k h d x e2, DAs.keep k h ds r e3⟩
end
mutual
theorem DA.weak (h : ∀ b, M' b → M b ∨ H b = none) : ∀ (d : PyData) (v : V), DA M H d v → DA M' H d v
  | .none, _, e => by unfold DA at e ⊢; exact e
  | .bool _, _, e => by unfold DA at e ⊢; exact e
  | .int _, _, e => by unfold DA at e ⊢; exact e
  | .str _, _, e => by unfold DA at e ⊢; exact e
  | .list ds, _, e => by
    unfold DA at e ⊢
    obtain ⟨a, xs, e1, e2, e3, e4⟩ := e
    refine ⟨a, xs, e1, e2, fun m => ?_, DAs.weak h ds xs e4⟩
    rcases h a m with z | z
    · exact e3 z
    · rw [z] at e2
      cases e2
  | .tuple ds, _, e => by
    unfold DA at e ⊢
    obtain ⟨a, xs, e1, e2, e4⟩ := e
    exact ⟨a, xs, e1, e2, DAs.weak h ds xs e4⟩
  | .dict _, _, e => by unfold DA at e; exact e.elim
theorem DAs.weak (h : ∀ b, M' b → M b ∨ H b = none) : ∀ (ds : List PyData) (xs : List V), DAs M H ds xs → DAs M' H ds xs
  | [], _, e => by unfold DAs at e ⊢; exact e
  | d :: ds, _, e => by
    unfold DAs at e ⊢
    obtain ⟨x, r, e1, e2, e3⟩ := e
    exact ⟨x, r, e1, DA.weak h d x e2, DAs.weak h ds r e3⟩
end
mutual
theorem DA.dp {K : PySem.W.Frag} : ∀ (d : PyData) (v : V), DA M H d v → Dp K H v d
  | .none, _, e => by unfold DA at e; subst e; exact .non
  | .bool _, _, e => by unfold DA at e; subst e; exact .bl _
  | .int _, _, e => by unfold DA at e; subst e; exact .int _
  | .str _, _, e => by unfold DA at e; subst e; exact .str _
  | .list ds, _, e => by
    unfold DA at e
    obtain ⟨a, xs, e1, e2, e3, e4⟩ := e
    subst e1
    exact .lst (SqL.of e2) (DAs.dp ds xs e4)
  | .tuple ds, _, e => by
    unfold DA at e
    obtain ⟨a, xs, e1, e2, e4⟩ := e
    subst e1
    exact .tup (SqT.of e2) (DAs.dp ds xs e4)
  | .dict _, _, e => by unfold DA at e; exact e.elim
theorem DAs.dp {K : PySem.W.Frag} : ∀ (ds : List PyData) (xs : List V), DAs M H ds xs → DpAll K H xs ds
  | [], _, e => by unfold DAs at e; subst e; exact .nil
  | d :: ds, _, e => by
    unfold DAs at e
    obtain ⟨x, r, e1, e2, e3⟩ := e
    subst e1
    exact .cons (DA.dp d x e2) (DAs.dp ds r e3)
end
theorem DA.same {d : PyData} {v : V} (h : DA M H d v) (k : Same H H') : DA M H' d v := DA.keep (M' := Bt) (Keep.of k) (fun _ z => z.elim) d v h
theorem DAs.same {ds : List PyData} {xs : List V} (h : DAs M H ds xs) (k : Same H H') : DAs M H' ds xs := DAs.keep (M' := Bt) (Keep.of k) (fun _ z => z.elim) ds xs h
theorem DA.kp {d : PyData} {v : V} (h : DA Tp H d v) (k : Keep M H H') : DA Tp H' d v := DA.keep k (fun _ _ => True.intro) d v h
theorem DAs.kp {ds : List PyData} {xs : List V} (h : DAs Tp H ds xs) (k : Keep M H H') : DAs Tp H' ds xs := DAs.keep k (fun _ _ => True.intro) ds xs h
theorem DA.any {d : PyData} {v : V} (h : DA Tp H d v) : DA M H d v := DA.weak (fun _ _ => .inl True.intro) d v h
theorem DAs.any {ds : List PyData} {xs : List V} (h : DAs Tp H ds xs) : DAs M H ds xs := DAs.weak (fun _ _ => .inl True.intro) ds xs h
theorem DA.bot {d : PyData} {v : V} (h : DA M H d v) : DA Bt H d v := DA.weak (fun _ z => z.elim) d v h
theorem DAs.nil : DAs M H [] [] := by unfold DAs; rfl
theorem DAs.cons {d : PyData} {ds : List PyData} {x : V} {xs : List V} (h : DA M H d x) (r : DAs M H ds xs) : DAs M H (d :: ds) (x :: xs) := by
  unfold DAs
  exact ⟨x, xs, rfl, h, r⟩
theorem DAs.inv {d : PyData} {ds : List PyData} {xs : List V} (h : DAs M H (d :: ds) xs) : ∃ x r, xs = x :: r ∧ DA M H d x ∧ DAs M H ds r := by
  unfold DAs at h
  exact h
theorem DAs.inv0 {xs : List V} (h : DAs M H [] xs) : xs = [] := by
  unfold DAs at h
  exact h
theorem DA.int {i : Int} : DA M H (.int i) (.int i) := by unfold DA; rfl
theorem DA.str {s : Str} : DA M H (.str s) (.str s) := by unfold DA; rfl
theorem DA.bl {b : Bool} : DA M H (.bool b) (.bl b) := by unfold DA; rfl
theorem DA.non : DA M H .none .non := by unfold DA; rfl
theorem DA.intI {i : Int} {v : V} (h : DA M H (.int i) v) : v = .int i := by unfold DA at h; exact h
theorem DA.strI {s : Str} {v : V} (h : DA M H (.str s) v) : v = .str s := by unfold DA at h; exact h
theorem DA.nonI {v : V} (h : DA M H .none v) : v = .non := by unfold DA at h; exact h
theorem DA.tup {ds : List PyData} {a : Addr} {xs : List V} (h : H a = some (.tup xs)) (r : DAs M H ds xs) : DA M H (.tuple ds) (.ref a) := by
  unfold DA
  exact ⟨a, xs, rfl, h, r⟩
theorem DA.tupI {ds : List PyData} {v : V} (h : DA M H (.tuple ds) v) : ∃ a xs, v = .ref a ∧ H a = some (.tup xs) ∧ DAs M H ds xs := by
  unfold DA at h
  exact h
theorem DA.lst {ds : List PyData} {a : Addr} {xs : List V} (h : H a = some (.lst xs)) (n : ¬ M a) (r : DAs M H ds xs) : DA M H (.list ds) (.ref a) := by
  unfold DA
  exact ⟨a, xs, rfl, h, n, r⟩
theorem DA.lstI {ds : List PyData} {v : V} (h : DA M H (.list ds) v) : ∃ a xs, v = .ref a ∧ H a = some (.lst xs) ∧ ¬ M a ∧ DAs M H ds xs := by
  unfold DA at h
  exact h
theorem DAs.length : ∀ {ds : List PyData} {xs : List V}, DAs M H ds xs → xs.length = ds.length
  | [], _, h => by rw [h.inv0]; rfl
  | d :: ds, _, h => by
    obtain ⟨x, r, e, _, h2⟩ := h.inv
    rw [e, List.length_cons, List.length_cons, DAs.length h2]
theorem DAs.append : ∀ {ds es : List PyData} {xs ys : List V}, DAs M H ds xs → DAs M H es ys → DAs M H (ds ++ es) (xs ++ ys)
  | [], _, _, _, h, g => by rw [h.inv0]; exact g
  | d :: ds, _, _, _, h, g => by
    obtain ⟨x, r, e, h1, h2⟩ := h.inv
    rw [e]
    exact DAs.cons h1 (DAs.append h2 g)
theorem DAs.get : ∀ {ds : List PyData} {xs : List V} {i : Nat} {d : PyData}, DAs M H ds xs → ds[i]? = some d → ∃ x, xs[i]? = some x ∧ DA M H d x
  | [], _, _, _, _, e => by simp at e
  | d :: ds, _, 0, _, h, e => by
    obtain ⟨x, r, ex, h1, _⟩ := h.inv
    simp at e
    subst e
    rw [ex]
    exact ⟨x, by simp, h1⟩
  | d :: ds, _, i + 1, _, h, e => by
    obtain ⟨x, r, ex, _, h2⟩ := h.inv
    obtain ⟨y, e1, e2⟩ := DAs.get (i := i) h2 (by simpa using e)
    rw [ex]
    exact ⟨y, by simpa using e1, e2⟩
theorem DAs.getV : ∀ {ds : List PyData} {xs : List V} {i : Nat} {x : V}, DAs M H ds xs → xs[i]? = some x → ∃ d, ds[i]? = some d ∧ DA M H d x
  | [], _, _, _, h, e => by rw [h.inv0] at e; simp at e
  | d :: ds, _, 0, _, h, e => by
    obtain ⟨x, r, ex, h1, _⟩ := h.inv
    rw [ex] at e
    simp at e
    subst e
    exact ⟨d, by simp, h1⟩
  | d :: ds, _, i + 1, _, h, e => by
    obtain ⟨x, r, ex, _, h2⟩ := h.inv
    rw [ex] at e
    obtain ⟨y, e1, e2⟩ := DAs.getV (i := i) h2 (by simpa using e)
    exact ⟨y, by simpa using e1, e2⟩
theorem DAs.take : ∀ {ds : List PyData} {xs : List V} (n : Nat), DAs M H ds xs → DAs M H (ds.take n) (xs.take n)
  | _, _, 0, _ => DAs.nil
  | [], _, _ + 1, h => by rw [h.inv0]; exact DAs.nil
  | d :: ds, _, n + 1, h => by
    obtain ⟨x, r, ex, h1, h2⟩ := h.inv
    rw [ex]
    exact DAs.cons h1 (DAs.take n h2)
theorem DAs.drop : ∀ {ds : List PyData} {xs : List V} (n : Nat), DAs M H ds xs → DAs M H (ds.drop n) (xs.drop n)
  | _, _, 0, h => h
  | [], _, _ + 1, h => by rw [h.inv0]; exact DAs.nil
  | d :: ds, _, n + 1, h => by
    obtain ⟨x, r, ex, h1, h2⟩ := h.inv
    rw [ex]
    exact DAs.drop n h2
theorem DAs.ints : ∀ (ns : List Int), DAs M H (ns.map .int) (ns.map V.int)
  | [] => DAs.nil
  | n :: ns => DAs.cons DA.int (DAs.ints ns)
theorem DAs.intsI : ∀ {ns : List Int} {xs : List V}, DAs M H (ns.map .int) xs → xs = ns.map V.int
  | [], _, h => h.inv0
  | n :: ns, _, h => by
    obtain ⟨x, r, ex, h1, h2⟩ := h.inv
    rw [ex, h1.intI, DAs.intsI h2]
    rfl
end
/-- a tuple of ints -/
abbrev tI (ns : List Int) : PyData := .tuple (ns.map .int)
section
variable {M M' : Addr → Prop} {H H' : Hp}
theorem DA.mkI {ns : List Int} {a : Addr} (h : H a = some (.tup (ns.map V.int))) : DA M H (tI ns) (.ref a) := DA.tup h (DAs.ints ns)
theorem DA.unI {ns : List Int} {v : V} (h : DA M H (tI ns) v) : ∃ a, v = .ref a ∧ H a = some (.tup (ns.map V.int)) := by
  obtain ⟨a, xs, e, h1, h2⟩ := h.tupI
  exact ⟨a, e, by rw [h1, h2.intsI]⟩
end
/-! ### the shed's states -/
/-- a limit, the piles from the bottom to the top, the weights of all items that ever came -/
structure Sta where
  lim : Int
  L : List Int
  R : List Int
  ws : List Int
/-- items are numbers of weights; not more lie there than came -/
def Sta.Ok (s : Sta) : Prop := (∀ i ∈ s.L ++ s.R, 0 ≤ i ∧ i < s.ws.length) ∧ s.L.length + s.R.length ≤ s.ws.length
def pilesD (s : Sta) : PyData := .tuple [tI s.L, tI s.R]
/-- a side's name: left, or right -/
def sd : Bool → Str
  | false => "left"
  | true => "right"
theorem sd_ne : ¬ (("right" : Str) = "left") := by decide +kernel
def pileOf (s : Sta) (r : Bool) : List Int := if r then s.R else s.L
def wt (ws : List Int) (i : Int) : Int := ws.getD i.toNat 0
def wsum (ws items : List Int) : Int := (items.map (wt ws)).sum
/-- the top m items -/
def topN (p : List Int) (m : Nat) : List Int := p.drop (p.length - m)
def restN (p : List Int) (m : Nat) : List Int := p.take (p.length - m)
/-- the piles after a lift -/
def moveL (L R : List Int) (r : Bool) (m : Nat) : List Int := if r then L ++ topN R m else restN L m
def moveR (L R : List Int) (r : Bool) (m : Nat) : List Int := if r then restN R m else R ++ topN L m
inductive Er where
  | few (n : Nat)
  | heavy (w : Int)
  | empty (r : Bool)
/-- a lift: why it fails, or the piles after it -/
def liftP (lim : Int) (ws L R : List Int) (r : Bool) (m : Nat) : Except Er (List Int × List Int) :=
  if (if r then R else L).length < m then .error (.few (if r then R else L).length)
  else if lim < wsum ws (topN (if r then R else L) m) then .error (.heavy (wsum ws (topN (if r then R else L) m)))
  else .ok (moveL L R r m, moveR L R r m)
def liftsP (lim : Int) (ws L R : List Int) : List (Bool × Nat) → Except Er (List Int × List Int)
  | [] => .ok (L, R)
  | (r, m) :: t => match liftP lim ws L R r m with
    | .error e => .error e
    | .ok q => liftsP lim ws q.1 q.2 t
/-- the possible lifts from a side -/
def canN (lim : Int) (ws p : List Int) : List Nat := ((List.range p.length).map (· + 1)).filter fun m => decide (wsum ws (topN p m) ≤ lim)
def can (lim : Int) (ws L R : List Int) : List (Bool × Nat) := (canN lim ws L).map (fun m => (false, m)) ++ (canN lim ws R).map (fun m => (true, m))
def liftD (q : Bool × Nat) : PyData := .tuple [.str (sd q.1), .int q.2]
def liftsD (t : List (Bool × Nat)) : PyData := .list (t.map liftD)
inductive Deed where
  | put (w : Int) (r : Bool)
  | putP (w : Int)
  | take (r : Bool)
  | lift (r : Bool) (m : Nat)
  | liftAll (t : List (Bool × Nat))
  | setL (l : Int)
def Deed.name : Deed → Str
  | .put _ _ => "put"
  | .putP _ => "put"
  | .take _ => "take"
  | .lift _ _ => "lift"
  | .liftAll _ => "lift_all"
  | .setL _ => "set_limit"
def Deed.D : Deed → PyData
  | .put w r => .tuple [.str "put", .int w, .str (sd r)]
  | .putP w => .tuple [.str "put", .int w, .str "left", .str "plain"]
  | .take r => .tuple [.str "take", .str (sd r)]
  | .lift r m => .tuple [.str "lift", .str (sd r), .int m]
  | .liftAll t => .tuple [.str "lift_all", liftsD t]
  | .setL l => .tuple [.str "set_limit", .int l]
def putS (s : Sta) (w : Int) (r : Bool) : Sta := { s with L := if r then s.L else s.L ++ [(s.ws.length : Int)], R := if r then s.R ++ [(s.ws.length : Int)] else s.R, ws := s.ws ++ [w] }
def withoutS (s : Sta) (i : Int) : Sta := { s with L := s.L.filter (fun j => j != i), R := s.R.filter fun j => j != i }
/-- an operation: why it fails, or its result and the state after it -/
def act (s : Sta) : Deed → Except Er (PyData × Sta)
  | .put w r => .ok (.int s.ws.length, putS s w r)
  | .putP w => .ok (.int s.ws.length, putS s w false)
  | .take r => match (pileOf s r).getLast? with
    | none => .error (.empty r)
    | some i => .ok (.int i, withoutS s i)
  | .lift r m => match liftP s.lim s.ws s.L s.R r m with
    | .error e => .error e
    | .ok q => .ok (.int (wsum s.ws (topN (pileOf s r) m)), { s with L := q.1, R := q.2 })
  | .liftAll t => match liftsP s.lim s.ws s.L s.R t with
    | .error e => .error e
    | .ok q => .ok (.none, { s with L := q.1, R := q.2 })
  | .setL l => .ok (.int s.lim, { s with lim := l })
/-- what is told of a success -/
def toldD (t : PyData) : PyData := .tuple [.str "told", t]
end Tw
set_option Elab.async false
set_option linter.all false
set_option maxRecDepth 100000
set_option maxHeartbeats 4000000
/-! calls of the text's own defs in short; try .. finally -/
namespace Tw
open PySem PySem.Spec PyProof.Rows L2
/-- a def as its callers see it -/
def Cal (P : Program) (w : World) (K : PySem.W.Frag) (mg : Str → Option Value) (base : Heap) (CX : CXT) (k : Nat) (f : Addr) (ps : List Str) (sp : Sp) : Prop :=
  ∃ fd, FnOk P w K mg base CX k f fd ps sp ∧ PySem.W.keepIn K (.ref f) = true ∧ Binds K fd ps []
def tFn (sp : Sp) (t : TA) : TE := fun σ H Q => t σ H fun vs H1 => sp vs H1 Q E0
def tFnX (sp : Sp) (E : L2.St → XK) (t : TA) : TE := fun σ H Q => t σ H fun vs H1 => sp vs H1 Q (E σ)
def tMt (C : Addr) (m : Str) (sp : Sp) (ta : TE) (t : TA) : TE := fun σ H Q => ta σ H fun x H1 => ∃ a dx fs, x = .ref a ∧ H1 a = some (.ins C dx fs) ∧ fs.lookup m = none ∧ t σ H1 fun vs H2 => sp (x :: vs) H2 Q E0
def tMtX (C : Addr) (m : Str) (sp : Sp) (E : L2.St → XK) (ta : TE) (t : TA) : TE := fun σ H Q => ta σ H fun x H1 => ∃ a dx fs, x = .ref a ∧ H1 a = some (.ins C dx fs) ∧ fs.lookup m = none ∧ t σ H1 fun vs H2 => sp (x :: vs) H2 Q (E σ)
def tMk (C : Addr) (sp : Sp) (t : TA) : TE := fun σ H Q => t σ H fun vs H1 => ∀ x dx, H1 x = none → H1 dx = none → dx ≠ x → sp (.ref x :: vs) (upd (upd H1 dx (.own x)) x (.ins C dx [])) (fun v H2 => v = .non ∧ Q (.ref x) H2) E0
section
variable {X : Cx} {CX : CXT} {k : Nat} {f C : Addr} {ps : List Str} {sp : Sp} {x m : Str} {p pos apos : Pos} {e o : Expr} {es : List Expr} {t : TA} {ta : TE} {E : L2.St → XK}
theorem pe_fn (G : Cal X.prog X.w X.K X.mg X.base CX0 k f ps sp) (hr : Room k X.A) (hm : X.mg x = some (.ref f)) (ha : PA X (e :: es) t) (hg : Gl X x := by rfl) (hdb : (x == ("__debug__" : Str)) = false := by decide)
    (he : starEach (e :: es) X.env = (false, eval e X.env) :: starEach es X.env := by rfl) (hpl : (backTo pos (starEach es X.env)).any (·.1) = false := by rfl) : PE X (.Call (.Name x p) (e :: es) [] pos) (tFn sp t) := by
  obtain ⟨fd, F, kp, b⟩ := G
  have h := pe_call (p := p) (pos := pos) F hr hg hm kp b .nil pass0 ha hdb he hpl
  have ee : tCall sp [] E0 t = tFn sp t := by
    funext σ H Q
    show t σ H (fun vs H1 => sp (vs ++ []) H1 Q E0) = t σ H fun vs H1 => sp vs H1 Q E0
    congr
    funext vs H1
    rw [List.append_nil]
  exact ee ▸ h
theorem pe_fnX (G : Cal X.prog X.w X.K X.mg X.base CX k f ps sp) (hr : Room k X.A) (hm : X.mg x = some (.ref f)) (hx : ∀ σ, PassesAt CX X σ (E σ)) (ha : PA X (e :: es) t) (hg : Gl X x := by rfl) (hdb : (x == ("__debug__" : Str)) = false := by decide)
    (he : starEach (e :: es) X.env = (false, eval e X.env) :: starEach es X.env := by rfl) (hpl : (backTo pos (starEach es X.env)).any (·.1) = false := by rfl) : PE X (.Call (.Name x p) (e :: es) [] pos) (tFnX sp E t) := by
  obtain ⟨fd, F, kp, b⟩ := G
  have h := pe_callSD (p := p) (pos := pos) F hr hg hm kp b .nil hx ha hdb he hpl
  have ee : tCallSD sp [] E t = tFnX sp E t := by
    funext σ H Q
    show t σ H (fun vs H1 => sp (vs ++ []) H1 Q (E σ)) = t σ H fun vs H1 => sp vs H1 Q (E σ)
    congr
    funext vs H1
    rw [List.append_nil]
  exact ee ▸ h
theorem pe_mt {pl : Sem Bool} (G : Cal X.prog X.w X.K X.mg X.base CX0 k f ps sp) (c : Cls X.K C) (hm : Meth X.K C m f) (hr : Room k X.A) (ho : PE X o ta) (ha : PA X (e :: es) t)
    (hst : starEach (e :: es) X.env = (false, eval e X.env) :: starEach es X.env := by rfl) (hpl : (backTo pos (starEach es X.env)).any (·.1) = false := by rfl)
    (ht : eval (.Call (.Attribute o m apos) (e :: es) [] pos) X.env = (do
      let ov ← eval o X.env
      standAt apos.atName
      let (f, first) ← holding [ov] (getMethod ov m pl)
      callWith pos f first (backTo pos (starEach (e :: es) X.env)) (backToKw pos (keywordEach [] X.env))) := by rfl) :
    PE X (.Call (.Attribute o m apos) (e :: es) [] pos) (tMt C m sp ta t) := by
  obtain ⟨fd, F, kp, b⟩ := G
  have h := pe_meth ho c hm F hr b .nil pass0 ha hst hpl ht
  have ee : tMeth C m sp [] E0 ta t = tMt C m sp ta t := by
    funext σ H Q
    show (ta σ H fun x H1 => ∃ a dx fs, x = .ref a ∧ H1 a = some (.ins C dx fs) ∧ fs.lookup m = none ∧ t σ H1 fun vs H2 => sp (x :: (vs ++ [])) H2 Q E0) = _
    congr
    funext x H1
    simp only [List.append_nil]
  exact ee ▸ h
theorem pe_mt0 {pl : Sem Bool} (G : Cal X.prog X.w X.K X.mg X.base CX0 k f ps sp) (c : Cls X.K C) (hm : Meth X.K C m f) (hr : Room k X.A) (ho : PE X o ta)
    (ht : eval (.Call (.Attribute o m apos) [] [] pos) X.env = (do
      let ov ← eval o X.env
      standAt apos.atName
      let (f, first) ← holding [ov] (getMethod ov m pl)
      callWith pos f first (backTo pos (starEach [] X.env)) (backToKw pos (keywordEach [] X.env))) := by rfl) :
    PE X (.Call (.Attribute o m apos) [] [] pos) (tMt C m sp ta tNil) := by
  obtain ⟨fd, F, kp, b⟩ := G
  exact pe_meth0 ho c hm F hr b .nil pass0 ht
theorem pe_mtX {pl : Sem Bool} (G : Cal X.prog X.w X.K X.mg X.base CX k f ps sp) (c : Cls X.K C) (hm : Meth X.K C m f) (hr : Room k X.A) (hx : ∀ σ, PassesAt CX X σ (E σ)) (ho : PE X o ta) (ha : PA X (e :: es) t)
    (hst : starEach (e :: es) X.env = (false, eval e X.env) :: starEach es X.env := by rfl) (hpl : (backTo pos (starEach es X.env)).any (·.1) = false := by rfl)
    (ht : eval (.Call (.Attribute o m apos) (e :: es) [] pos) X.env = (do
      let ov ← eval o X.env
      standAt apos.atName
      let (f, first) ← holding [ov] (getMethod ov m pl)
      callWith pos f first (backTo pos (starEach (e :: es) X.env)) (backToKw pos (keywordEach [] X.env))) := by rfl) :
    PE X (.Call (.Attribute o m apos) (e :: es) [] pos) (tMtX C m sp E ta t) := by
  obtain ⟨fd, F, kp, b⟩ := G
  refine ⟨fun pins s σ H Q I h => ?_⟩
  refine PySem.W.methodCall_KW (pl := pl) (thn (ho.run pins s σ H _ I h) fun u s1 ⟨x, H1, I1, rx, a, dx, fs, ex, ea, l, q⟩ => ?_) ht
  subst ex
  obtain rfl : u = Value.ref a := rx
  refine getmeth_ok I1 ea c hm l ?_
  refine PySem.W.callWith_K (first := [.ref a]) (h₀ := X.base) I.ok.mod.kin hm.kp (thn (ha.run pos pins s1 σ H1 _ I1 q) fun us s2 ⟨vs, H2, I2, r, q2⟩ => ⟨I2.kIn, ?_⟩) hst hpl
  exact run_fnSD (us := .ref a :: us) (vs := .ref a :: vs) (dvs := []) F hr b .nil (hx σ) I2 (.cons rfl r) (by rw [List.append_nil]; exact q2)
/-- C(e, ..) -/
theorem pe_mk {fI : Addr} (G : Cal X.prog X.w X.K X.mg X.base CX0 k fI ps sp) (M : Mk X.K C fI) (hr : Room (k + 1) X.A) (hm : X.mg x = some (.ref C)) (ha : PA X (e :: es) t) (hg : Gl X x := by rfl) (hdb : (x == ("__debug__" : Str)) = false := by decide)
    (he : starEach (e :: es) X.env = (false, eval e X.env) :: starEach es X.env := by rfl) (hpl : (backTo pos (starEach es X.env)).any (·.1) = false := by rfl) : PE X (.Call (.Name x p) (e :: es) [] pos) (tMk C sp t) := by
  obtain ⟨fd, F, kp, b⟩ := G
  have h := pe_make (p := p) (pos := pos) M F hr hg hm b .nil pass0 ha hdb he hpl
  have ee : tMake C sp [] E0 t = tMk C sp t := by
    funext σ H Q
    show t σ H (fun vs H1 => ∀ x dx, H1 x = none → H1 dx = none → dx ≠ x → sp (.ref x :: (vs ++ [])) (upd (upd H1 dx (.own x)) x (.ins C dx [])) (fun v H2 => v = .non ∧ Q (.ref x) H2) E0) = _
    congr
    funext vs H1
    simp only [List.append_nil]
  exact ee ▸ h
end
/-- what a callee lets out, this def lets out, too -/
theorem pass_on {X : Cx} {E : XK} (tk : Takes X (fun cls d _ H => E cls d H)) : ∀ σ : L2.St, PassesAt (L2.CX X.prog X.w) X σ E := fun σ => passAt tk σ
/-! ### try .. finally -/
/-- try: body / finally: suite. tb W: the body's reading, W what is wished of its errors; tf: the suite behind a body that ran through; tfs: the suite with the error in flight, which goes on to Wout -/
def tFin (tb : WX → TS) (tf tfs : TS) (Wout : WX) : TS := fun D σ H => tb (wFin tfs Wout) { nx := fun σ1 H1 => tf D σ1 H1, rt := fun _ _ => False } σ H
section
variable {X : Cx} {body : List Stmt} {f₀ : Stmt} {fs : List Stmt} {pos : Pos} {tb : WX → TS} {tf tfs : TS} {Wout : WX}
theorem ps_fin (hs : X.stack = X.env :: X.outer) (hf : X.env.frame = some X.env.locals) (hex : X.ex = []) (tk : Takes X Wout)
    (hb : ∀ (W : WX) (pn : List (Addr × Obj)) (xe : Value → Shared → Prop), Takes (X.tr pn xe) W → PassesOwn (model X.prog X.w) X.A X.env xe → PSs (X.tr pn xe) body (tb W))
    (hfin : PSs X.nox (f₀ :: fs) tf) (hsu : ∀ (a : Addr) (pn : List (Addr × Obj)), PSs (X.suite a pn) (f₀ :: fs) tfs) : PS X (.Try body [] [] (f₀ :: fs) pos) (tFin tb tf tfs Wout) := by
  refine ⟨fun pins s σ H D I h => ?_⟩
  have ok := I.ok
  refine wpAny_Try_finally ?_
  refine wpAny_mono ((hb (wFin tfs Wout) (X.pn ++ pins) (fun x s₁ => wpAny (model X.prog X.w) X.A (noteFrame x X.env) (fun _ s₂ => FinallyRaised X.prog X.w X.A X.xe X.env (f₀ :: fs) (SP X pins D) x s₂) (FinallyRaised X.prog X.w X.A X.xe X.env (f₀ :: fs) (SP X pins D)) s₁)
    (fun u s' xx => ?_) PassesOwn.looking).run [] s σ H { nx := fun σ1 H1 => tf D σ1 H1, rt := fun _ _ => False } (I.toTry _) h) (fun g s1 z => ?_) (fun x s1 hx => hx)
  · exact fin_exc hs hf hex ok tk hsu xx
  · cases g with
    | ret u =>
      obtain ⟨_, _, _, _, _, q⟩ := z
      exact False.elim q
    | brk =>
      obtain ⟨_, _, _, q⟩ := z
      exact False.elim q
    | cont =>
      obtain ⟨_, _, _, q⟩ := z
      exact False.elim q
    | next =>
      obtain ⟨σ1, H1, J1, q1⟩ := z
      refine wpAny_execs_nil ?_
      refine wpAny_mono (hfin.run pins s1 σ1 H1 D ((J1.ofTry ok).wish _) q1) (fun g2 s2 q2 => ?_) fun _ _ e => False.elim e
      have q3 : SP X pins D g2 s2 := q2.unwish
      cases g2 <;> exact q3
end
end Tw
set_option Elab.async false
set_option linter.all false
set_option maxRecDepth 100000
set_option maxHeartbeats 4000000
/-! the text by places; what the top has written -/
namespace Tw
open PySem PySem.Spec PyProof.Rows L2
def top (i : Nat) : Stmt := PySem.Challenge.pw_twopiles_k85_whole_a_shed_made_anew.main.body.getD i (.Pass ⟨0, 0, 0, 0⟩)
abbrev s_plain : Stmt := top 6
abbrev s_otherSide : Stmt := top 10
abbrev s_pileOn : Stmt := top 11
abbrev s_weigh : Stmt := top 12
abbrev s_liftsFrom : Stmt := top 13
abbrev s_lifts : Stmt := top 14
abbrev s_lifted : Stmt := top 16
abbrev s_liftAll : Stmt := top 17
abbrev s_cellAt : Stmt := top 23
abbrev s_box : Stmt := top 24
abbrev s_take : Stmt := top 25
abbrev s_ofL : Stmt := top 26
abbrev s_same : Stmt := top 27
abbrev s_lweigh : Stmt := top 28
abbrev s_hoists : Stmt := top 29
abbrev s_hoisted : Stmt := top 30
abbrev s_carried : Stmt := top 31
abbrev s_seen : Stmt := top 32
abbrev s_expect : Stmt := top 33
abbrev s_asked : Stmt := top 34
abbrev s_named : Stmt := top 35
abbrev s_deed : Stmt := top 36
abbrev s_rowRight : Stmt := top 37
abbrev s_right : Stmt := top 38
abbrev s_law : Stmt := top 39
abbrev s_St_init : Stmt := inClass (top 20) 0
abbrev s_St_load : Stmt := inClass (top 20) 1
abbrev s_St_with_piles : Stmt := inClass (top 20) 2
abbrev s_St_with_item : Stmt := inClass (top 20) 3
abbrev s_St_top : Stmt := inClass (top 20) 4
abbrev s_St_without : Stmt := inClass (top 20) 5
abbrev s_St_present : Stmt := inClass (top 20) 6
abbrev s_Sh_init : Stmt := inClass (top 21) 0
abbrev s_Sh_now : Stmt := inClass (top 21) 1
abbrev s_Sh_put : Stmt := inClass (top 21) 2
abbrev s_Sh_take : Stmt := inClass (top 21) 3
abbrev s_Sh_lift : Stmt := inClass (top 21) 4
abbrev s_Sh_lift_all : Stmt := inClass (top 21) 5
abbrev s_Sh_set_limit : Stmt := inClass (top 21) 6
abbrev s_Sh_undo : Stmt := inClass (top 21) 7
abbrev s_Sh_limit : Stmt := inClass (top 21) 8
abbrev s_Sh_piles : Stmt := inClass (top 21) 9
abbrev s_Sh_weights : Stmt := inClass (top 21) 10
abbrev s_Sh_state : Stmt := inClass (top 21) 11
abbrev s_Sh_lifts : Stmt := inClass (top 21) 12
abbrev s_Sh_operations : Stmt := inClass (top 21) 13
abbrev s_Sh_as_of : Stmt := inClass (top 21) 14
abbrev s_Sh_twin : Stmt := inClass (top 21) 15
abbrev s_Sh_log : Stmt := inClass (top 21) 16
abbrev s_Sh_eq : Stmt := inClass (top 21) 17
abbrev s_Sh_len : Stmt := inClass (top 21) 18
abbrev s_Sh_repr : Stmt := inClass (top 21) 19
abbrev s_TooFew_init : Stmt := inClass (top 2) 0
abbrev s_Empty_init : Stmt := inClass (top 3) 0
abbrev s_TooHeavy_init : Stmt := inClass (top 4) 0
/-- a def of the text as it stands behind the top, no defaults -/
structure DefK (K : PySem.W.Frag) (x qual : Str) (st : Stmt) (f : Addr) : Prop where
  l : ∃ (oc : Value) (od : Option Addr) (kV doc pm : Value) (an : Option Addr) (cdv ct : Value) (osl : Array (Option Value)), K.lookup f = some ⟨oc, od, .func (PySem.W.fnOf x qual (defArgs st) (defBody st) (defScope st) .none kV doc pm an cdv ct), osl⟩ ∧ PySem.W.codeIn K cdv qual = true
  k : PySem.W.keepIn K (.ref f) = true
theorem DefK.fn {K : PySem.W.Frag} {x qual : Str} {st : Stmt} {f : Addr} (d : DefK K x qual st f) : ∃ fd, Fun K x qual st f fd := by
  obtain ⟨oc, od, kV, doc, pm, an, cdv, ct, osl, l, c⟩ := d.l
  exact ⟨_, fun_mk l c d.k⟩
/-- where all stands -/
structure Ad where
  plain : Addr
  otherSide : Addr
  pileOn : Addr
  weigh : Addr
  liftsFrom : Addr
  lifts : Addr
  lifted : Addr
  liftAll : Addr
  cellAt : Addr
  box : Addr
  take : Addr
  ofL : Addr
  same : Addr
  lweigh : Addr
  hoists : Addr
  hoisted : Addr
  carried : Addr
  seen : Addr
  expect : Addr
  asked : Addr
  named : Addr
  deed : Addr
  rowRight : Addr
  right : Addr
  law : Addr
  St_init : Addr
  St_load : Addr
  St_with_piles : Addr
  St_with_item : Addr
  St_top : Addr
  St_without : Addr
  St_present : Addr
  Sh_init : Addr
  Sh_now : Addr
  Sh_put : Addr
  Sh_take : Addr
  Sh_lift : Addr
  Sh_lift_all : Addr
  Sh_set_limit : Addr
  Sh_undo : Addr
  Sh_limit : Addr
  Sh_piles : Addr
  Sh_weights : Addr
  Sh_state : Addr
  Sh_lifts : Addr
  Sh_operations : Addr
  Sh_as_of : Addr
  Sh_twin : Addr
  Sh_log : Addr
  Sh_eq : Addr
  Sh_len : Addr
  Sh_repr : Addr
  TooFew_init : Addr
  Empty_init : Addr
  TooHeavy_init : Addr
  cState : Addr
  cShed : Addr
  cNoOperation : Addr
  cTooFew : Addr
  cEmpty : Addr
  cTooHeavy : Addr
/-- the module's names -/
structure TxN (K : PySem.W.Frag) (A : Ad) : Prop where
  n_plain : PySem.W.nsIn K mainGlobals "plain" = some (some (.ref A.plain))
  n_otherSide : PySem.W.nsIn K mainGlobals "other_side" = some (some (.ref A.otherSide))
  n_pileOn : PySem.W.nsIn K mainGlobals "pile_on" = some (some (.ref A.pileOn))
  n_weigh : PySem.W.nsIn K mainGlobals "weigh" = some (some (.ref A.weigh))
  n_liftsFrom : PySem.W.nsIn K mainGlobals "lifts_from" = some (some (.ref A.liftsFrom))
  n_lifts : PySem.W.nsIn K mainGlobals "lifts" = some (some (.ref A.lifts))
  n_lifted : PySem.W.nsIn K mainGlobals "lifted" = some (some (.ref A.lifted))
  n_liftAll : PySem.W.nsIn K mainGlobals "lift_all" = some (some (.ref A.liftAll))
  n_cellAt : PySem.W.nsIn K mainGlobals "_law_cell_at" = some (some (.ref A.cellAt))
  n_box : PySem.W.nsIn K mainGlobals "_law_box" = some (some (.ref A.box))
  n_take : PySem.W.nsIn K mainGlobals "_law_take" = some (some (.ref A.take))
  n_ofL : PySem.W.nsIn K mainGlobals "_law_of" = some (some (.ref A.ofL))
  n_same : PySem.W.nsIn K mainGlobals "_law_same" = some (some (.ref A.same))
  n_lweigh : PySem.W.nsIn K mainGlobals "_law_weigh" = some (some (.ref A.lweigh))
  n_hoists : PySem.W.nsIn K mainGlobals "_law_hoists" = some (some (.ref A.hoists))
  n_hoisted : PySem.W.nsIn K mainGlobals "_law_hoisted" = some (some (.ref A.hoisted))
  n_carried : PySem.W.nsIn K mainGlobals "_law_carried" = some (some (.ref A.carried))
  n_seen : PySem.W.nsIn K mainGlobals "_law_seen_of" = some (some (.ref A.seen))
  n_expect : PySem.W.nsIn K mainGlobals "_law_expect" = some (some (.ref A.expect))
  n_asked : PySem.W.nsIn K mainGlobals "_law_asked" = some (some (.ref A.asked))
  n_named : PySem.W.nsIn K mainGlobals "_law_named" = some (some (.ref A.named))
  n_deed : PySem.W.nsIn K mainGlobals "_law_deed" = some (some (.ref A.deed))
  n_rowRight : PySem.W.nsIn K mainGlobals "_law_row_right" = some (some (.ref A.rowRight))
  n_right : PySem.W.nsIn K mainGlobals "_law_right" = some (some (.ref A.right))
  n_law : PySem.W.nsIn K mainGlobals "law" = some (some (.ref A.law))
  n_liftsLifts : PySem.W.nsIn K mainGlobals "lifts_lifts" = some (some (.ref A.lifts))
  n_liftAllLifts : PySem.W.nsIn K mainGlobals "lift_all_lifts" = some (some (.ref A.liftAll))
  n_cState : PySem.W.nsIn K mainGlobals "State" = some (some (.ref A.cState))
  n_cShed : PySem.W.nsIn K mainGlobals "Shed" = some (some (.ref A.cShed))
  n_cNoOperation : PySem.W.nsIn K mainGlobals "NoOperation" = some (some (.ref A.cNoOperation))
  n_cTooFew : PySem.W.nsIn K mainGlobals "TooFew" = some (some (.ref A.cTooFew))
  n_cEmpty : PySem.W.nsIn K mainGlobals "Empty" = some (some (.ref A.cEmpty))
  n_cTooHeavy : PySem.W.nsIn K mainGlobals "TooHeavy" = some (some (.ref A.cTooHeavy))
  n_LEFT : ∃ t, PySem.W.nsIn K mainGlobals "LEFT" = some (some (.str "left" t))
  n_RIGHT : ∃ t, PySem.W.nsIn K mainGlobals "RIGHT" = some (some (.str "right" t))
  z_tuple : PySem.W.nsIn K mainGlobals "tuple" = some none
  z_len : PySem.W.nsIn K mainGlobals "len" = some none
  z_sum : PySem.W.nsIn K mainGlobals "sum" = some none
  z_range : PySem.W.nsIn K mainGlobals "range" = some none
  z_sorted : PySem.W.nsIn K mainGlobals "sorted" = some none
  z_list : PySem.W.nsIn K mainGlobals "list" = some none
  z_isinstance : PySem.W.nsIn K mainGlobals "isinstance" = some none
  z_all : PySem.W.nsIn K mainGlobals "all" = some none
  z_zip : PySem.W.nsIn K mainGlobals "zip" = some none
  z_min : PySem.W.nsIn K mainGlobals "min" = some none
  z_max : PySem.W.nsIn K mainGlobals "max" = some none
  z_abs : PySem.W.nsIn K mainGlobals "abs" = some none
  z_int : PySem.W.nsIn K mainGlobals "int" = some none
  z_repr : PySem.W.nsIn K mainGlobals "repr" = some none
  z_LookupError : PySem.W.nsIn K mainGlobals "LookupError" = some none
  z_OverflowError : PySem.W.nsIn K mainGlobals "OverflowError" = some none
  z_KeyError : PySem.W.nsIn K mainGlobals "KeyError" = some none
  z_IndexError : PySem.W.nsIn K mainGlobals "IndexError" = some none
  z_bool : PySem.W.nsIn K mainGlobals "bool" = some none
  z_str : PySem.W.nsIn K mainGlobals "str" = some none
/-- .. as a def sees them -/
structure TxG (K : PySem.W.Frag) (mg : Str → Option Value) (A : Ad) : Prop where
  g_plain : mg "plain" = some (.ref A.plain)
  g_otherSide : mg "other_side" = some (.ref A.otherSide)
  g_pileOn : mg "pile_on" = some (.ref A.pileOn)
  g_weigh : mg "weigh" = some (.ref A.weigh)
  g_liftsFrom : mg "lifts_from" = some (.ref A.liftsFrom)
  g_lifts : mg "lifts" = some (.ref A.lifts)
  g_lifted : mg "lifted" = some (.ref A.lifted)
  g_liftAll : mg "lift_all" = some (.ref A.liftAll)
  g_cellAt : mg "_law_cell_at" = some (.ref A.cellAt)
  g_box : mg "_law_box" = some (.ref A.box)
  g_take : mg "_law_take" = some (.ref A.take)
  g_ofL : mg "_law_of" = some (.ref A.ofL)
  g_same : mg "_law_same" = some (.ref A.same)
  g_lweigh : mg "_law_weigh" = some (.ref A.lweigh)
  g_hoists : mg "_law_hoists" = some (.ref A.hoists)
  g_hoisted : mg "_law_hoisted" = some (.ref A.hoisted)
  g_carried : mg "_law_carried" = some (.ref A.carried)
  g_seen : mg "_law_seen_of" = some (.ref A.seen)
  g_expect : mg "_law_expect" = some (.ref A.expect)
  g_asked : mg "_law_asked" = some (.ref A.asked)
  g_named : mg "_law_named" = some (.ref A.named)
  g_deed : mg "_law_deed" = some (.ref A.deed)
  g_rowRight : mg "_law_row_right" = some (.ref A.rowRight)
  g_right : mg "_law_right" = some (.ref A.right)
  g_law : mg "law" = some (.ref A.law)
  g_liftsLifts : mg "lifts_lifts" = some (.ref A.lifts)
  g_liftAllLifts : mg "lift_all_lifts" = some (.ref A.liftAll)
  g_cState : mg "State" = some (.ref A.cState)
  g_cShed : mg "Shed" = some (.ref A.cShed)
  g_cNoOperation : mg "NoOperation" = some (.ref A.cNoOperation)
  g_cTooFew : mg "TooFew" = some (.ref A.cTooFew)
  g_cEmpty : mg "Empty" = some (.ref A.cEmpty)
  g_cTooHeavy : mg "TooHeavy" = some (.ref A.cTooHeavy)
  g_LEFT : ∃ t, mg "LEFT" = some (.str "left" t)
  g_RIGHT : ∃ t, mg "RIGHT" = some (.str "right" t)
  z_tuple : mg "tuple" = none
  z_len : mg "len" = none
  z_sum : mg "sum" = none
  z_range : mg "range" = none
  z_sorted : mg "sorted" = none
  z_list : mg "list" = none
  z_isinstance : mg "isinstance" = none
  z_all : mg "all" = none
  z_zip : mg "zip" = none
  z_min : mg "min" = none
  z_max : mg "max" = none
  z_abs : mg "abs" = none
  z_int : mg "int" = none
  z_repr : mg "repr" = none
  z_LookupError : mg "LookupError" = none
  z_OverflowError : mg "OverflowError" = none
  z_KeyError : mg "KeyError" = none
  z_IndexError : mg "IndexError" = none
  z_bool : mg "bool" = none
  z_str : mg "str" = none
theorem TxN.g {K : PySem.W.Frag} {mg : Str → Option Value} {A : Ad} {h : Heap} (X : K.In h) (G : h.Ns mainGlobals mg) (T : TxN K A) : TxG K mg A where
  g_plain := PySem.W.mg_of X G T.n_plain
  g_otherSide := PySem.W.mg_of X G T.n_otherSide
  g_pileOn := PySem.W.mg_of X G T.n_pileOn
  g_weigh := PySem.W.mg_of X G T.n_weigh
  g_liftsFrom := PySem.W.mg_of X G T.n_liftsFrom
  g_lifts := PySem.W.mg_of X G T.n_lifts
  g_lifted := PySem.W.mg_of X G T.n_lifted
  g_liftAll := PySem.W.mg_of X G T.n_liftAll
  g_cellAt := PySem.W.mg_of X G T.n_cellAt
  g_box := PySem.W.mg_of X G T.n_box
  g_take := PySem.W.mg_of X G T.n_take
  g_ofL := PySem.W.mg_of X G T.n_ofL
  g_same := PySem.W.mg_of X G T.n_same
  g_lweigh := PySem.W.mg_of X G T.n_lweigh
  g_hoists := PySem.W.mg_of X G T.n_hoists
  g_hoisted := PySem.W.mg_of X G T.n_hoisted
  g_carried := PySem.W.mg_of X G T.n_carried
  g_seen := PySem.W.mg_of X G T.n_seen
  g_expect := PySem.W.mg_of X G T.n_expect
  g_asked := PySem.W.mg_of X G T.n_asked
  g_named := PySem.W.mg_of X G T.n_named
  g_deed := PySem.W.mg_of X G T.n_deed
  g_rowRight := PySem.W.mg_of X G T.n_rowRight
  g_right := PySem.W.mg_of X G T.n_right
  g_law := PySem.W.mg_of X G T.n_law
  g_liftsLifts := PySem.W.mg_of X G T.n_liftsLifts
  g_liftAllLifts := PySem.W.mg_of X G T.n_liftAllLifts
  g_cState := PySem.W.mg_of X G T.n_cState
  g_cShed := PySem.W.mg_of X G T.n_cShed
  g_cNoOperation := PySem.W.mg_of X G T.n_cNoOperation
  g_cTooFew := PySem.W.mg_of X G T.n_cTooFew
  g_cEmpty := PySem.W.mg_of X G T.n_cEmpty
  g_cTooHeavy := PySem.W.mg_of X G T.n_cTooHeavy
  g_LEFT := let ⟨t, e⟩ := T.n_LEFT; ⟨t, PySem.W.mg_of X G e⟩
  g_RIGHT := let ⟨t, e⟩ := T.n_RIGHT; ⟨t, PySem.W.mg_of X G e⟩
  z_tuple := PySem.W.mg_none_of X G T.z_tuple
  z_len := PySem.W.mg_none_of X G T.z_len
  z_sum := PySem.W.mg_none_of X G T.z_sum
  z_range := PySem.W.mg_none_of X G T.z_range
  z_sorted := PySem.W.mg_none_of X G T.z_sorted
  z_list := PySem.W.mg_none_of X G T.z_list
  z_isinstance := PySem.W.mg_none_of X G T.z_isinstance
  z_all := PySem.W.mg_none_of X G T.z_all
  z_zip := PySem.W.mg_none_of X G T.z_zip
  z_min := PySem.W.mg_none_of X G T.z_min
  z_max := PySem.W.mg_none_of X G T.z_max
  z_abs := PySem.W.mg_none_of X G T.z_abs
  z_int := PySem.W.mg_none_of X G T.z_int
  z_repr := PySem.W.mg_none_of X G T.z_repr
  z_LookupError := PySem.W.mg_none_of X G T.z_LookupError
  z_OverflowError := PySem.W.mg_none_of X G T.z_OverflowError
  z_KeyError := PySem.W.mg_none_of X G T.z_KeyError
  z_IndexError := PySem.W.mg_none_of X G T.z_IndexError
  z_bool := PySem.W.mg_none_of X G T.z_bool
  z_str := PySem.W.mg_none_of X G T.z_str
/-- the defs themselves -/
structure TxD (K : PySem.W.Frag) (A : Ad) : Prop where
  d_plain : DefK K "plain" "plain" s_plain A.plain
  d_otherSide : DefK K "other_side" "other_side" s_otherSide A.otherSide
  d_pileOn : DefK K "pile_on" "pile_on" s_pileOn A.pileOn
  d_weigh : DefK K "weigh" "weigh" s_weigh A.weigh
  d_liftsFrom : DefK K "lifts_from" "lifts_from" s_liftsFrom A.liftsFrom
  d_lifts : DefK K "lifts" "lifts" s_lifts A.lifts
  d_lifted : DefK K "lifted" "lifted" s_lifted A.lifted
  d_liftAll : DefK K "lift_all" "lift_all" s_liftAll A.liftAll
  d_cellAt : DefK K "_law_cell_at" "_law_cell_at" s_cellAt A.cellAt
  d_box : DefK K "_law_box" "_law_box" s_box A.box
  d_take : DefK K "_law_take" "_law_take" s_take A.take
  d_ofL : DefK K "_law_of" "_law_of" s_ofL A.ofL
  d_same : DefK K "_law_same" "_law_same" s_same A.same
  d_lweigh : DefK K "_law_weigh" "_law_weigh" s_lweigh A.lweigh
  d_hoists : DefK K "_law_hoists" "_law_hoists" s_hoists A.hoists
  d_hoisted : DefK K "_law_hoisted" "_law_hoisted" s_hoisted A.hoisted
  d_carried : DefK K "_law_carried" "_law_carried" s_carried A.carried
  d_seen : DefK K "_law_seen_of" "_law_seen_of" s_seen A.seen
  d_expect : DefK K "_law_expect" "_law_expect" s_expect A.expect
  d_asked : DefK K "_law_asked" "_law_asked" s_asked A.asked
  d_named : DefK K "_law_named" "_law_named" s_named A.named
  d_deed : DefK K "_law_deed" "_law_deed" s_deed A.deed
  d_rowRight : DefK K "_law_row_right" "_law_row_right" s_rowRight A.rowRight
  d_right : DefK K "_law_right" "_law_right" s_right A.right
  d_law : DefK K "law" "law" s_law A.law
  d_St_init : DefK K "__init__" "State.__init__" s_St_init A.St_init
  d_St_load : DefK K "load" "State.load" s_St_load A.St_load
  d_St_with_piles : DefK K "with_piles" "State.with_piles" s_St_with_piles A.St_with_piles
  d_St_with_item : DefK K "with_item" "State.with_item" s_St_with_item A.St_with_item
  d_St_top : DefK K "top" "State.top" s_St_top A.St_top
  d_St_without : DefK K "without" "State.without" s_St_without A.St_without
  d_St_present : DefK K "present" "State.present" s_St_present A.St_present
  d_Sh_init : DefK K "__init__" "Shed.__init__" s_Sh_init A.Sh_init
  d_Sh_now : DefK K "now" "Shed.now" s_Sh_now A.Sh_now
  d_Sh_put : ∃ fd, FunD K "put" "Shed.put" (defArgs s_Sh_put) (defBody s_Sh_put) (defScope s_Sh_put) [] [("side", .str "left")] A.Sh_put fd
  d_Sh_take : DefK K "take" "Shed.take" s_Sh_take A.Sh_take
  d_Sh_lift : DefK K "lift" "Shed.lift" s_Sh_lift A.Sh_lift
  d_Sh_lift_all : DefK K "lift_all" "Shed.lift_all" s_Sh_lift_all A.Sh_lift_all
  d_Sh_set_limit : DefK K "set_limit" "Shed.set_limit" s_Sh_set_limit A.Sh_set_limit
  d_Sh_undo : DefK K "undo" "Shed.undo" s_Sh_undo A.Sh_undo
  d_Sh_limit : DefK K "limit" "Shed.limit" s_Sh_limit A.Sh_limit
  d_Sh_piles : DefK K "piles" "Shed.piles" s_Sh_piles A.Sh_piles
  d_Sh_weights : DefK K "weights" "Shed.weights" s_Sh_weights A.Sh_weights
  d_Sh_state : DefK K "state" "Shed.state" s_Sh_state A.Sh_state
  d_Sh_lifts : DefK K "lifts" "Shed.lifts" s_Sh_lifts A.Sh_lifts
  d_Sh_operations : DefK K "operations" "Shed.operations" s_Sh_operations A.Sh_operations
  d_Sh_as_of : DefK K "as_of" "Shed.as_of" s_Sh_as_of A.Sh_as_of
  d_Sh_twin : DefK K "twin" "Shed.twin" s_Sh_twin A.Sh_twin
  d_Sh_log : DefK K "log" "Shed.log" s_Sh_log A.Sh_log
  d_Sh_eq : DefK K "__eq__" "Shed.__eq__" s_Sh_eq A.Sh_eq
  d_Sh_len : DefK K "__len__" "Shed.__len__" s_Sh_len A.Sh_len
  d_Sh_repr : DefK K "__repr__" "Shed.__repr__" s_Sh_repr A.Sh_repr
  d_TooFew_init : DefK K "__init__" "TooFew.__init__" s_TooFew_init A.TooFew_init
  d_Empty_init : DefK K "__init__" "Empty.__init__" s_Empty_init A.Empty_init
  d_TooHeavy_init : DefK K "__init__" "TooHeavy.__init__" s_TooHeavy_init A.TooHeavy_init
/-- the two classes -/
structure TxC (K : PySem.W.Frag) (A : Ad) : Prop where
  cl_State : Cls K A.cState
  mk_State : Mk K A.cState A.St_init
  no_own_limit : NoAttr K A.cState "own_limit"
  no_own_piles : NoAttr K A.cState "own_piles"
  no_own_weights : NoAttr K A.cState "own_weights"
  m_St_load : Meth K A.cState "load" A.St_load
  m_St_with_piles : Meth K A.cState "with_piles" A.St_with_piles
  m_St_with_item : Meth K A.cState "with_item" A.St_with_item
  m_St_top : Meth K A.cState "top" A.St_top
  m_St_without : Meth K A.cState "without" A.St_without
  m_St_present : Meth K A.cState "present" A.St_present
  cl_Shed : Cls K A.cShed
  mk_Shed : Mk K A.cShed A.Sh_init
  no_own_states : NoAttr K A.cShed "own_states"
  no_own_log : NoAttr K A.cShed "own_log"
  m_Sh_now : Meth K A.cShed "now" A.Sh_now
  m_Sh_put : Meth K A.cShed "put" A.Sh_put
  m_Sh_take : Meth K A.cShed "take" A.Sh_take
  m_Sh_lift : Meth K A.cShed "lift" A.Sh_lift
  m_Sh_lift_all : Meth K A.cShed "lift_all" A.Sh_lift_all
  m_Sh_set_limit : Meth K A.cShed "set_limit" A.Sh_set_limit
  m_Sh_undo : Meth K A.cShed "undo" A.Sh_undo
  m_Sh_limit : Meth K A.cShed "limit" A.Sh_limit
  m_Sh_piles : Meth K A.cShed "piles" A.Sh_piles
  m_Sh_weights : Meth K A.cShed "weights" A.Sh_weights
  m_Sh_state : Meth K A.cShed "state" A.Sh_state
  m_Sh_lifts : Meth K A.cShed "lifts" A.Sh_lifts
  m_Sh_operations : Meth K A.cShed "operations" A.Sh_operations
  m_Sh_as_of : Meth K A.cShed "as_of" A.Sh_as_of
  m_Sh_twin : Meth K A.cShed "twin" A.Sh_twin
  m_Sh_log : Meth K A.cShed "log" A.Sh_log
  f_eq : PySem.W.findIn K (.ref A.cShed) "__eq__" = some (some (.ref A.Sh_eq))
  i_eq : PySem.W.isFn K (.ref A.Sh_eq) = true
  f_len : PySem.W.findIn K (.ref A.cShed) "__len__" = some (some (.ref A.Sh_len))
  i_len : PySem.W.isFn K (.ref A.Sh_len) = true
  f_repr : PySem.W.findIn K (.ref A.cShed) "__repr__" = some (some (.ref A.Sh_repr))
  i_repr : PySem.W.isFn K (.ref A.Sh_repr) = true
  f_ne : PySem.W.findIn K (.ref A.cShed) "__ne__" = some (some (.builtin "object.__ne__"))
  o_Shed : PySem.W.mroIn K A.cShed (.type "object") = some true
  a_Shed : PySem.W.findIn K (.ref A.cShed) "__class__" = some (some (.builtin "object.__class__"))
  h_cls : PySem.W.specialIn K (.builtin "object.__class__") "__get__" = some (some (.builtin "getset_descriptor.__get__"))
  t_cls : PySem.W.takesIn K (.builtin "object.__class__") = some true
/-- the errors -/
structure TxE (K : PySem.W.Frag) (A : Ad) : Prop where
  e_TooFew : OexB K A.cTooFew tlLk "LookupError.__new__"
  n_TooFew : PySem.W.findIn K (.ref A.cTooFew) "many" = some none
  i_TooFew : PySem.W.findIn K (.ref A.cTooFew) "__init__" = some (some (.ref A.TooFew_init))
  t_TooFew : PySem.W.typeIn K (.ref A.TooFew_init) = some (.type "function")
  x_TooFew : XfC K A.cTooFew
  k_TooFew : ExcC K A.cTooFew
  s_TooFew_NoOperation : PySem.W.subIn K (.ref A.cTooFew) (.ref A.cNoOperation) = some false
  s_TooFew_Empty : PySem.W.subIn K (.ref A.cTooFew) (.ref A.cEmpty) = some false
  s_TooFew_TooFew : PySem.W.subIn K (.ref A.cTooFew) (.ref A.cTooFew) = some true
  s_TooFew_TooHeavy : PySem.W.subIn K (.ref A.cTooFew) (.ref A.cTooHeavy) = some false
  s_TooFew_KeyError : PySem.W.subIn K (.ref A.cTooFew) (.type "KeyError") = some false
  s_TooFew_IndexError : PySem.W.subIn K (.ref A.cTooFew) (.type "IndexError") = some false
  s_TooFew_LookupError : PySem.W.subIn K (.ref A.cTooFew) (.type "LookupError") = some true
  e_Empty : OexB K A.cEmpty tlLk "LookupError.__new__"
  n_Empty : PySem.W.findIn K (.ref A.cEmpty) "side" = some none
  i_Empty : PySem.W.findIn K (.ref A.cEmpty) "__init__" = some (some (.ref A.Empty_init))
  t_Empty : PySem.W.typeIn K (.ref A.Empty_init) = some (.type "function")
  x_Empty : XfC K A.cEmpty
  k_Empty : ExcC K A.cEmpty
  s_Empty_NoOperation : PySem.W.subIn K (.ref A.cEmpty) (.ref A.cNoOperation) = some false
  s_Empty_Empty : PySem.W.subIn K (.ref A.cEmpty) (.ref A.cEmpty) = some true
  s_Empty_TooFew : PySem.W.subIn K (.ref A.cEmpty) (.ref A.cTooFew) = some false
  s_Empty_TooHeavy : PySem.W.subIn K (.ref A.cEmpty) (.ref A.cTooHeavy) = some false
  s_Empty_KeyError : PySem.W.subIn K (.ref A.cEmpty) (.type "KeyError") = some false
  s_Empty_IndexError : PySem.W.subIn K (.ref A.cEmpty) (.type "IndexError") = some false
  s_Empty_LookupError : PySem.W.subIn K (.ref A.cEmpty) (.type "LookupError") = some true
  e_TooHeavy : OexB K A.cTooHeavy tlOv "OverflowError.__new__"
  n_TooHeavy : PySem.W.findIn K (.ref A.cTooHeavy) "weight" = some none
  i_TooHeavy : PySem.W.findIn K (.ref A.cTooHeavy) "__init__" = some (some (.ref A.TooHeavy_init))
  t_TooHeavy : PySem.W.typeIn K (.ref A.TooHeavy_init) = some (.type "function")
  x_TooHeavy : XfC K A.cTooHeavy
  k_TooHeavy : ExcC K A.cTooHeavy
  s_TooHeavy_NoOperation : PySem.W.subIn K (.ref A.cTooHeavy) (.ref A.cNoOperation) = some false
  s_TooHeavy_Empty : PySem.W.subIn K (.ref A.cTooHeavy) (.ref A.cEmpty) = some false
  s_TooHeavy_TooFew : PySem.W.subIn K (.ref A.cTooHeavy) (.ref A.cTooFew) = some false
  s_TooHeavy_TooHeavy : PySem.W.subIn K (.ref A.cTooHeavy) (.ref A.cTooHeavy) = some true
  s_TooHeavy_KeyError : PySem.W.subIn K (.ref A.cTooHeavy) (.type "KeyError") = some false
  s_TooHeavy_IndexError : PySem.W.subIn K (.ref A.cTooHeavy) (.type "IndexError") = some false
  s_TooHeavy_OverflowError : PySem.W.subIn K (.ref A.cTooHeavy) (.type "OverflowError") = some true
  ic_NoOperation : PySem.W.isClsIn K A.cNoOperation = true
  tc_NoOperation : PySem.W.typeIn K (.ref A.cNoOperation) = some (.type "type")
  bc_NoOperation : PySem.W.subIn K (.ref A.cNoOperation) (.type "BaseException") = some true
  ic_Empty : PySem.W.isClsIn K A.cEmpty = true
  tc_Empty : PySem.W.typeIn K (.ref A.cEmpty) = some (.type "type")
  bc_Empty : PySem.W.subIn K (.ref A.cEmpty) (.type "BaseException") = some true
  ic_TooFew : PySem.W.isClsIn K A.cTooFew = true
  tc_TooFew : PySem.W.typeIn K (.ref A.cTooFew) = some (.type "type")
  bc_TooFew : PySem.W.subIn K (.ref A.cTooFew) (.type "BaseException") = some true
  ic_TooHeavy : PySem.W.isClsIn K A.cTooHeavy = true
  tc_TooHeavy : PySem.W.typeIn K (.ref A.cTooHeavy) = some (.type "type")
  bc_TooHeavy : PySem.W.subIn K (.ref A.cTooHeavy) (.type "BaseException") = some true
  v_Lk : PySem.W.findCls K (.type "LookupError") (.type "type") "__init__" = some (.val (.builtin "LookupError.__init__"))
  v_Ov : PySem.W.findCls K (.type "OverflowError") (.type "type") "__init__" = some (.val (.builtin "OverflowError.__init__"))
end Tw
set_option Elab.async false
set_option linter.all false
set_option maxRecDepth 100000
set_option maxHeartbeats 4000000
/-! short rules; loads.py, lifts.py -/
namespace Tw
open PySem PySem.Spec PyProof.Rows L2
/-! ### short rules over tracked lists and tuples -/
/-- a list or a tuple stands there -/
def Sq (H : Hp) (a : Addr) (xs : List V) : Prop := H a = some (.tup xs) ∨ H a = some (.lst xs)
section
variable {X : Cx} {e e2 : Expr} {te te2 : TE} {p pos : Pos}
def rLen : List V → Hp → VK → Prop := fun vs H Q => ∃ a xs, vs = [.ref a] ∧ Sq H a xs ∧ Q (.int xs.length) H
theorem cr_len : CallR X (.builtin "len") rLen := by
  intro pins s σ H xs us Q I r h
  obtain ⟨a, ys, e, h, q⟩ := h
  exact call_len_seq pins s σ H xs us Q I r ⟨a, ys, e, h.elim (fun h => .inr (SqT.of h)) fun h => .inl (SqL.of h), q⟩
theorem pe_len (hm : X.mg "len" = none) (h : PE X e te) (hg : Gl X "len" := by rfl) (hs : starEach [e] X.env = (false, eval e X.env) :: starEach [] X.env := by rfl) (hp : (backTo pos (starEach [] X.env)).any (·.1) = false := by rfl) :
    PE X (.Call (.Name "len" p) [e] [] pos) (tCB rLen (tCons te tNil)) := pe_callB cr_len hg hm PySem.boot_len (pa_cons h pa_nil hs) (by decide) (by decide) hs hp
def rTup : List V → Hp → VK → Prop := fun vs H Q => ∃ a xs, vs = [.ref a] ∧ H a = some (.tup xs) ∧ Q (.ref a) H
theorem cr_tup : CallR X (.type "tuple") rTup := by
  intro pins s σ H xs us Q I r h
  obtain ⟨a, ys, e, h, q⟩ := h
  exact call_tupleT pins s σ H xs us Q I r ⟨a, ys, e, SqT.of h, q⟩
/-- tuple(t), t a tuple -/
theorem pe_tupT (hm : X.mg "tuple" = none) (h : PE X e te) (hg : Gl X "tuple" := by rfl) (hs : starEach [e] X.env = (false, eval e X.env) :: starEach [] X.env := by rfl) (hp : (backTo pos (starEach [] X.env)).any (·.1) = false := by rfl) :
    PE X (.Call (.Name "tuple" p) [e] [] pos) (tCB rTup (tCons te tNil)) := pe_callTy cr_tup hg hm (by decide +kernel) (pa_cons h pa_nil hs) (by decide) (by decide) hs hp
def rTupL : List V → Hp → VK → Prop := fun vs H Q => ∃ a xs, vs = [.ref a] ∧ H a = some (.lst xs) ∧ ∀ l, H l = none → Q (.ref l) (upd H l (.tup xs))
theorem cr_tupL : CallR X (.type "tuple") rTupL := by
  intro pins s σ H xs us Q I r h
  obtain ⟨a, ys, e, h, q⟩ := h
  exact call_tuple_of pins s σ H xs us Q I r ⟨a, ys, e, .inl ⟨SqL.of h, q⟩⟩
/-- tuple(l), l a list -/
theorem pe_tupL (hm : X.mg "tuple" = none) (h : PE X e te) (hg : Gl X "tuple" := by rfl) (hs : starEach [e] X.env = (false, eval e X.env) :: starEach [] X.env := by rfl) (hp : (backTo pos (starEach [] X.env)).any (·.1) = false := by rfl) :
    PE X (.Call (.Name "tuple" p) [e] [] pos) (tCB rTupL (tCons te tNil)) := pe_callTy cr_tupL hg hm (by decide +kernel) (pa_cons h pa_nil hs) (by decide) (by decide) hs hp
/-- x[i] of a list or a tuple -/
def rAt : R2 := fun x y H Q => ∃ a xs i v, x = .ref a ∧ y = .int i ∧ Sq H a xs ∧ atI xs i = some v ∧ Q v H
theorem ix_at : IxR X rAt := by
  intro ve sl pins s σ H x y v u Q I rx ry h hs
  obtain ⟨a, xs, i, z, e1, e2, h, e, q⟩ := h
  rcases h with h | h
  · exact ix_tup ve sl pins s σ H x y v u Q I rx ry ⟨a, xs, i, z, e1, e2, SqT.of h, e, q⟩ hs
  · exact ix_list ve sl pins s σ H x y v u Q I rx ry ⟨a, xs, i, z, e1, e2, SqL.of h, e, q⟩ hs
theorem pe_at (h : PE X e te) (h2 : PE X e2 te2) (hs : PlainIx e2 := by exact fun _ _ => rfl) : PE X (.Subscript e e2 pos) (tOp rAt te te2) := pe_ix ix_at h h2 hs
/-- sum(xs) -/
def rSumL : List V → Hp → VK → Prop := fun vs H Q => ∃ (a : Addr) (ns : List Int), vs = [V.ref a] ∧ H a = some (.lst (ns.map V.int)) ∧ Q (.int ns.sum) H
theorem cr_sumL (hc : X.calm = true) : CallR X (.builtin "sum") rSumL := by
  intro pins s σ H xs us Q I r h
  obtain ⟨a, ys, e, h, q⟩ := h
  exact cr_sum hc pins s σ H xs us Q I r ⟨a, ys, e, SqL.of h, q⟩
theorem pe_sum (hm : X.mg "sum" = none) (h : PE X e te) (hc : X.calm = true := by rfl) (hg : Gl X "sum" := by rfl) (hs : starEach [e] X.env = (false, eval e X.env) :: starEach [] X.env := by rfl) (hp : (backTo pos (starEach [] X.env)).any (·.1) = false := by rfl) :
    PE X (.Call (.Name "sum" p) [e] [] pos) (tCB rSumL (tCons te tNil)) := pe_callB (cr_sumL hc) hg hm (by decide +kernel) (pa_cons h pa_nil hs) (by decide) (by decide) hs hp
/-- t + u of tuples -/
def rCatT' : R2 := fun x y H Q => ∃ a b xs ys, x = .ref a ∧ y = .ref b ∧ H a = some (.tup xs) ∧ H b = some (.tup ys) ∧ xs.length + ys.length ≤ 1000000 ∧ ∀ p H', Same H H' → H' p = some (.tup (xs ++ ys)) → Q (.ref p) H'
theorem op_catT' : OpR X (binaryOp .Add) rCatT' := by
  intro pins s σ H x y v u Q I rx ry h
  obtain ⟨a, b, xs, ys, e1, e2, h1, h2, hz, q⟩ := h
  refine op_catA pins s σ H x y v u Q I rx ry ⟨a, b, xs, ys, e1, e2, SqT.of h1, SqT.of h2, by rw [sizeLine_eq]; omega, fun e => ?_, fun _ e => ?_, fun _ _ p hp => q p _ (Same.new hp) upd_same⟩
  · subst e
    exact q b H (Same.refl H) (by simpa using h2)
  · subst e
    exact q a H (Same.refl H) (by simpa using h1)
/-- t[lo:hi] of tuples -/
def rSlT' : V → Option Int → Option Int → Hp → VK → Prop := fun x lo hi H Q => ∃ a xs, x = .ref a ∧ H a = some (.tup xs) ∧ ∀ p H', Same H H' → H' p = some (.tup (cutV xs lo hi)) → Q (.ref p) H'
theorem cutV_whole {xs : List V} {lo hi : Option Int} (h : HT.sIx xs.length 0 lo = 0 ∧ HT.sIx xs.length xs.length hi = xs.length) : cutV xs lo hi = xs := by
  unfold cutV
  rw [h.1, h.2]
  simp
theorem sl_tup' : SlR X rSlT' := by
  intro pins s σ H x v vl vu lo hi sl Q I rx hs pl pu h
  obtain ⟨a, xs, e1, h1, q⟩ := h
  refine sl_tupA pins s σ H x v vl vu lo hi sl Q I rx hs pl pu ⟨a, xs, e1, SqT.of h1, fun w => ?_, fun w p hp => q p _ (Same.new hp) upd_same⟩
  exact q a H (Same.refl H) (by rw [cutV_whole w]; exact h1)
end
theorem if_true_of {c : Bool} {A B : Prop} (hc : c = true) (h : A) : if c = true then A else B := by
  rw [if_pos hc]
  exact h
theorem if_false_of {c : Bool} {A B : Prop} (hc : c = false) (h : B) : if c = true then A else B := by
  rw [hc, if_neg Bool.false_ne_true]
  exact h
/-! ### ints by place -/
theorem at_ints {ns : List Int} {i : Int} (h0 : 0 ≤ i) (h1 : i < ns.length) : atI (ns.map V.int) i = some (.int (wt ns i)) := by
  have e : ((i.toNat : Nat) : Int) = i := by omega
  have hl : i.toNat < ns.length := by omega
  have q : (ns.map V.int)[i.toNat]? = some (.int (wt ns i)) := by
    rw [List.getElem?_map, List.getElem?_eq_getElem hl]
    unfold wt
    rw [List.getD_eq_getElem?_getD, List.getElem?_eq_getElem hl]
    rfl
  have z := atI_nat q
  rw [e] at z
  exact z
theorem take_more {α : Type} : ∀ {l : List α} {i : Nat} {x : α}, l[i]? = some x → l.take (i + 1) = l.take i ++ [x]
  | [], i, x, h => by simp at h
  | a :: l, 0, x, h => by
    have e : a = x := Option.some.inj h
    subst e
    rfl
  | a :: l, i + 1, x, h => by
    have ih := take_more (l := l) (i := i) (x := x) h
    show a :: l.take (i + 1) = a :: l.take i ++ [x]
    rw [ih]
    rfl
theorem int_at {ns : List Int} {i : Nat} {y : V} (hi : (ns.map V.int)[i]? = some y) : ∃ z, ns[i]? = some z ∧ y = V.int z := by
  rw [List.getElem?_map] at hi
  cases e : ns[i]? with
  | none =>
    rw [e] at hi
    cases hi
  | some z =>
    rw [e] at hi
    exact ⟨z, rfl, (Option.some.inj hi).symm⟩
theorem _root_.L2.Same.at {H H' : Hp} (s : Same H H') {a : Addr} {o : HO} (h : H a = some o) : H' a = some o := s a o h
theorem _root_.L2.Same.sq {H H' : Hp} (s : Same H H') {a : Addr} {xs : List V} (h : Sq H a xs) : Sq H' a xs := h.elim (fun h => .inl (s a _ h)) fun h => .inr (s a _ h)
/-- a list that is new is written: what stood before stands -/
theorem _root_.L2.Same.put {H H' : Hp} (s : Same H H') {D : Addr} {o : HO} (n : H D = none) : Same H (upd H' D o) := fun b u e => by rw [upd_ne (ne_of_none e n)]; exact s b u e
theorem fit {n : Nat} (h : n ≤ 1000000) : n < sizeLine := by rw [sizeLine_eq]; omega
theorem fit' {n : Nat} (h : n ≤ 1000000) : n ≤ sizeLine := Nat.le_of_lt (fit h)
/-! ### piles and loads as data -/
abbrev pD (L R : List Int) : PyData := .tuple [tI L, tI R]
abbrev ldD (lim : Int) (ws : List Int) : PyData := .tuple [.int lim, tI ws]
section
variable {M : Addr → Prop} {H : Hp}
theorem pD_I {L R : List Int} {v : V} (h : DA M H (pD L R) v) : ∃ a l r, v = .ref a ∧ H a = some (.tup [.ref l, .ref r]) ∧ H l = some (.tup (L.map V.int)) ∧ H r = some (.tup (R.map V.int)) := by
  obtain ⟨a, xs, e, h1, h2⟩ := h.tupI
  obtain ⟨x, r, ex, h3, h4⟩ := h2.inv
  obtain ⟨y, r', ey, h5, h6⟩ := h4.inv
  obtain ⟨l, el, h7⟩ := h3.unI
  obtain ⟨r2, er, h8⟩ := h5.unI
  subst ex ey el er
  rw [h6.inv0] at h1
  exact ⟨a, l, r2, e, h1, h7, h8⟩
theorem pD_M {L R : List Int} {a l r : Addr} (h : H a = some (.tup [.ref l, .ref r])) (h1 : H l = some (.tup (L.map V.int))) (h2 : H r = some (.tup (R.map V.int))) : DA M H (pD L R) (.ref a) :=
  DA.tup h (DAs.cons (DA.mkI h1) (DAs.cons (DA.mkI h2) DAs.nil))
theorem ldD_I {lim : Int} {ws : List Int} {v : V} (h : DA M H (ldD lim ws) v) : ∃ a w, v = .ref a ∧ H a = some (.tup [.int lim, .ref w]) ∧ H w = some (.tup (ws.map V.int)) := by
  obtain ⟨a, xs, e, h1, h2⟩ := h.tupI
  obtain ⟨x, r, ex, h3, h4⟩ := h2.inv
  obtain ⟨y, r', ey, h5, h6⟩ := h4.inv
  obtain ⟨l, el, h7⟩ := h5.unI
  have e3 := h3.intI
  subst ex ey el e3
  rw [h6.inv0] at h1
  exact ⟨a, l, e, h1, h7⟩
theorem ldD_M {lim : Int} {ws : List Int} {a w : Addr} (h : H a = some (.tup [.int lim, .ref w])) (h1 : H w = some (.tup (ws.map V.int))) : DA M H (ldD lim ws) (.ref a) :=
  DA.tup h (DAs.cons DA.int (DAs.cons (DA.mkI h1) DAs.nil))
end
/-! ### the defs -/
def spPlain : Sp := fun vs H Q _ => ∃ v L R, vs = [v] ∧ DA Tp H (pD L R) v ∧ ∀ H' r, Same H H' → DA Tp H' (pD L R) r → Q r H'
def spOther : Sp := fun vs H Q _ => ∃ r : Bool, vs = [.str (sd r)] ∧ Q (.str (sd (!r))) H
def spPileOn : Sp := fun vs H Q _ => ∃ v L R r, vs = [v, .str (sd r)] ∧ DA Tp H (pD L R) v ∧ ∀ p, H p = some (.tup ((if r then R else L).map V.int)) → Q (.ref p) H
def spWeigh : Sp := fun vs H Q _ => ∃ (v : V) (lim : Int) (ws : List Int) (a : Addr) (items : List Int), vs = [v, .ref a] ∧ DA Tp H (ldD lim ws) v ∧ H a = some (.tup (items.map V.int)) ∧ (∀ i ∈ items, 0 ≤ i ∧ i < ws.length) ∧ items.length ≤ 100000 ∧ ∀ H', Same H H' → Q (.int (wsum ws items)) H'
section
variable {P : Program} {w : World} {K : PySem.W.Frag} {mg : Str → Option Value} {base : Heap} {A : Ad}
theorem sc_plain : FnScope ["piles"] ["piles"] (defScope s_plain) := ⟨rfl, rfl, rfl, by decide +kernel, rfl, by decide +kernel, by decide +kernel⟩
theorem ok_plain {f : Addr} {fd : FuncData} (F : Fun K "plain" "plain" s_plain f fd) (T : TxG K mg A) : FnOk P w K mg base CX0 1 f fd ["piles"] spPlain := by
  refine F.ok sc_plain (fun vs H Q E h => ?_) (fun cdv A outer s H vs Q E hr h => ?_)
  · obtain ⟨v, L, R, rfl, _⟩ := h
    rfl
  · obtain ⟨v, L, R, rfl, h, k⟩ := h
    obtain ⟨a, l, r, rfl, h1, h2, h3⟩ := pD_I h
    refine ⟨_, pss_one (ps_ret (pe_tup (pa_cons (pe_tupT T.z_tuple (pe_at (pv 0) pe_int)) (pa_cons (pe_tupT T.z_tuple (pe_at (pv 0) pe_int)) pa_nil)))), ?_⟩
    refine ⟨_, rfl, _, _, _, _, rfl, rfl, .inl h1, rfl, _, _, rfl, h2, _, rfl, _, _, _, _, rfl, rfl, .inl h1, rfl, _, _, rfl, h3, fit' (by show 2 ≤ 1000000; decide), fun p hp => ?_⟩
    exact k _ _ (Same.new hp) (pD_M upd_same (by rw [upd_ne (ne_of_none h2 hp)]; exact h2) (by rw [upd_ne (ne_of_none h3 hp)]; exact h3))
theorem sc_other : FnScope ["side"] ["side"] (defScope s_otherSide) := ⟨rfl, rfl, rfl, by decide +kernel, rfl, by decide +kernel, by decide +kernel⟩
theorem ok_other {f : Addr} {fd : FuncData} (F : Fun K "other_side" "other_side" s_otherSide f fd) (T : TxG K mg A) : FnOk P w K mg base CX0 1 f fd ["side"] spOther := by
  refine F.ok sc_other (fun vs H Q E h => ?_) (fun cdv A outer s H vs Q E hr h => ?_)
  · obtain ⟨r, rfl, _⟩ := h
    rfl
  · obtain ⟨r, rfl, k⟩ := h
    obtain ⟨t1, g1⟩ := T.g_LEFT
    obtain ⟨t2, g2⟩ := T.g_RIGHT
    refine ⟨_, pss_one (ps_ret (pe_ifExp (pt_cmpR op_eq (pv 0) (pe_glob (v := .str "right") rfl g2 ⟨_, rfl⟩) (nomark _)) (pe_glob (v := .str "left") rfl g1 ⟨_, rfl⟩) (pe_glob (v := .str "right") rfl g2 ⟨_, rfl⟩))), ?_⟩
    refine ⟨_, rfl, rfl, _, rfl, ?_⟩
    cases r with
    | false => exact if_false_of (decide_eq_false fun z => sd_ne (V.str.inj z).symm) k
    | true => exact if_true_of (decide_eq_true rfl) k
theorem sc_pileOn : FnScope ["piles", "side"] ["piles", "side"] (defScope s_pileOn) := ⟨rfl, rfl, rfl, by decide +kernel, rfl, by decide +kernel, by decide +kernel⟩
theorem ok_pileOn {f : Addr} {fd : FuncData} (F : Fun K "pile_on" "pile_on" s_pileOn f fd) (T : TxG K mg A) : FnOk P w K mg base CX0 1 f fd ["piles", "side"] spPileOn := by
  refine F.ok sc_pileOn (fun vs H Q E h => ?_) (fun cdv A outer s H vs Q E hr h => ?_)
  · obtain ⟨v, L, R, r, rfl, _⟩ := h
    rfl
  · obtain ⟨v, L, R, r, rfl, h, k⟩ := h
    obtain ⟨a, l, r', rfl, h1, h2, h3⟩ := pD_I h
    obtain ⟨t1, g1⟩ := T.g_LEFT
    refine ⟨_, pss_one (ps_ret (pe_ifExp (pt_cmpR op_eq (pv 1) (pe_glob (v := .str "left") rfl g1 ⟨_, rfl⟩) (nomark _)) (pe_at (pv 0) pe_int) (pe_at (pv 0) pe_int))), ?_⟩
    refine ⟨_, rfl, rfl, _, rfl, ?_⟩
    cases r with
    | false => exact if_true_of (decide_eq_true rfl) ⟨_, rfl, _, _, _, _, rfl, rfl, .inl h1, rfl, k _ h2⟩
    | true => exact if_false_of (decide_eq_false fun z => sd_ne (V.str.inj z)) ⟨_, rfl, _, _, _, _, rfl, rfl, .inl h1, rfl, k _ h3⟩
theorem sc_weigh : FnScope ["load", "items", "item"] ["load", "items"] (defScope s_weigh) := ⟨rfl, rfl, rfl, by decide +kernel, rfl, by decide +kernel, by decide +kernel⟩
theorem ok_weigh {f : Addr} {fd : FuncData} (F : Fun K "weigh" "weigh" s_weigh f fd) (T : TxG K mg A) : FnOk P w K mg base CX0 1 f fd ["load", "items"] spWeigh := by
  refine F.ok sc_weigh (fun vs H Q E h => ?_) (fun cdv A outer s H vs Q E hr h => ?_)
  · obtain ⟨v, lim, ws, a, items, rfl, _⟩ := h
    rfl
  · obtain ⟨v, lim, ws, a, items, rfl, h, ha, hi, hl, k⟩ := h
    obtain ⟨b, wa, rfl, h1, h2⟩ := ldD_I h
    refine ⟨_, pss_one (ps_ret (pe_sum T.z_sum (pe_lc (own := [("item", 2)]) (g := gName 2) (tt := tYes) rfl sc_weigh.nd (pi_tup (pv 1)) (blkOk_by (N := ["load", "items", "item"]) (sc := defScope s_weigh) (by decide +kernel))
      (fun _ _ _ _ _ => pg_name (i := 2) sc_weigh.nd rfl (Or.inl rfl)) (fun _ _ _ _ _ => pts_nil) (fun _ _ _ _ _ => pe_at (pe_at (pv 0) pe_int) (pv 2))))), ?_⟩
    refine ⟨_, rfl, a, rfl, ⟨_, SqT.of ha⟩, fun D hD => lc_tup (K := K) (a := a) (xs := items.map V.int) (fun i H' => Same H H' ∧ H' D = some (.lst (((items.take i).map (wt ws)).map V.int))) ⟨Same.new hD, upd_same⟩ (fun i H' _ q => SqT.of (q.1.at ha)) ?_ ?_⟩
    · rintro i x H' hx ⟨s1, hd⟩
      obtain ⟨z, hz, rfl⟩ := int_at hx
      have hm := hi z (List.mem_of_getElem? hz)
      have hl2 := (List.getElem?_eq_some_iff.mp hz).1
      refine ⟨rfl, _, rfl, _, _, _, _, rfl, rfl, .inl (s1.at h1), rfl, _, rfl, _, _, _, _, rfl, rfl, .inl (s1.at h2), at_ints hm.1 hm.2, _, hd, ?_, s1.put hD, ?_⟩
      · rw [List.length_map, List.length_map, List.length_take]
        exact fit (by omega)
      · rw [upd_same, take_more hz]
        simp
    · rintro H' ⟨s1, hd⟩
      rw [List.length_map, List.take_length] at hd
      exact ⟨_, _, rfl, hd, k _ s1⟩
end
end Tw
set_option Elab.async false
set_option linter.all false
set_option maxRecDepth 100000
set_option maxHeartbeats 4000000
/-! lifts.py: the possible lifts -/
namespace Tw
open PySem PySem.Spec PyProof.Rows L2
/-! ### slices -/
theorem cut_from (xs : List V) (k : Nat) : cutV xs (some (k : Int)) none = xs.drop k := by
  unfold cutV
  rw [HT.sIx_nat, HT.sIx_none, Nat.min_def]
  split
  · exact List.take_of_length_le (by rw [List.length_drop]; exact Nat.le_refl _)
  · rename_i h
    rw [List.drop_of_length_le (Nat.le_refl _), List.drop_of_length_le (by omega)]
    simp
theorem cut_to (xs : List V) (k : Nat) : cutV xs none (some (k : Int)) = xs.take k := by
  unfold cutV
  rw [HT.sIx_nat, HT.sIx_none, List.drop_zero, Nat.sub_zero, Nat.min_def]
  split
  · rfl
  · rename_i h
    rw [List.take_of_length_le (Nat.le_refl _), List.take_of_length_le (by omega)]
theorem cut_top {p : List Int} {m : Nat} (h : m ≤ p.length) : cutV (p.map V.int) (some ((p.length : Int) - (m : Int))) none = (topN p m).map V.int := by
  have e : (p.length : Int) - (m : Int) = ((p.length - m : Nat) : Int) := by omega
  rw [e, cut_from, ← List.map_drop]
  rfl
theorem cut_rest {p : List Int} {m : Nat} (h : m ≤ p.length) : cutV (p.map V.int) none (some ((p.length : Int) - (m : Int))) = (restN p m).map V.int := by
  have e : (p.length : Int) - (m : Int) = ((p.length - m : Nat) : Int) := by omega
  rw [e, cut_to, ← List.map_take]
  rfl
theorem top_mem {p : List Int} {m : Nat} {i : Int} (h : i ∈ topN p m) : i ∈ p := List.mem_of_mem_drop h
theorem rest_mem {p : List Int} {m : Nat} {i : Int} (h : i ∈ restN p m) : i ∈ p := List.mem_of_mem_take h
theorem top_len (p : List Int) (m : Nat) : (topN p m).length ≤ p.length := by
  unfold topN
  rw [List.length_drop]
  omega
theorem top_rest_len {p : List Int} {m : Nat} (h : m ≤ p.length) : (topN p m).length = m ∧ (restN p m).length = p.length - m := by
  unfold topN restN
  rw [List.length_drop, List.length_take]
  omega
/-- items within the weights -/
def InW (ws p : List Int) : Prop := ∀ i ∈ p, 0 ≤ i ∧ i < (ws.length : Int)
/-- the possible numbers up to k -/
def canK (lim : Int) (ws p : List Int) (k : Nat) : List Nat := ((List.range k).map (· + 1)).filter fun m => decide (wsum ws (topN p m) ≤ lim)
theorem canK_all (lim : Int) (ws p : List Int) : canK lim ws p p.length = canN lim ws p := rfl
theorem canK_yes {lim : Int} {ws p : List Int} {k : Nat} (h : wsum ws (topN p (k + 1)) ≤ lim) : canK lim ws p (k + 1) = canK lim ws p k ++ [k + 1] := by
  unfold canK
  rw [List.range_succ, List.map_append, List.filter_append]
  simp [h]
theorem canK_no {lim : Int} {ws p : List Int} {k : Nat} (h : ¬ wsum ws (topN p (k + 1)) ≤ lim) : canK lim ws p (k + 1) = canK lim ws p k := by
  unfold canK
  rw [List.range_succ, List.map_append, List.filter_append]
  simp [h]
theorem canK_len (lim : Int) (ws p : List Int) (k : Nat) : (canK lim ws p k).length ≤ k := by
  refine Nat.le_trans (List.length_filter_le _ _) ?_
  rw [List.length_map, List.length_range]
  exact Nat.le_refl _
theorem can_len (lim : Int) (ws p : List Int) : (canN lim ws p).length ≤ p.length := canK_len lim ws p p.length
def lfD (r : Bool) (ns : List Nat) : List PyData := ns.map fun m => liftD (r, m)
def spLiftsFrom : Sp := fun vs H Q _ => ∃ (ld pl : V) (lim : Int) (ws L R : List Int) (r : Bool), vs = [ld, pl, .str (sd r)] ∧ DA Tp H (ldD lim ws) ld ∧ DA Tp H (pD L R) pl ∧ InW ws (if r then R else L) ∧ (if r then R else L).length ≤ 1000 ∧
  ∀ H' p xs, Same H H' → H p = none → H' p = some (.lst xs) → DAs Tp H' (lfD r (canN lim ws (if r then R else L))) xs → Q (.ref p) H'
section
variable {P : Program} {w : World} {K : PySem.W.Frag} {mg : Str → Option Value} {base : Heap} {A : Ad}
theorem sc_lf : FnScope ["load", "piles", "side", "pile", "many"] ["load", "piles", "side"] (defScope s_liftsFrom) := ⟨rfl, rfl, rfl, by decide +kernel, rfl, by decide +kernel, by decide +kernel⟩
theorem ok_liftsFrom {f : Addr} {fd : FuncData} (F : Fun K "lifts_from" "lifts_from" s_liftsFrom f fd) (T : TxG K mg A) (G1 : Cal P w K mg base CX0 1 A.pileOn ["piles", "side"] spPileOn) (G2 : Cal P w K mg base CX0 1 A.weigh ["load", "items"] spWeigh) :
    FnOk P w K mg base CX0 2 f fd ["load", "piles", "side"] spLiftsFrom := by
  refine F.ok sc_lf (fun vs H Q E h => ?_) (fun cdv A outer s H vs Q E hr h => ?_)
  · obtain ⟨ld, pl, lim, ws, L, R, r, rfl, _⟩ := h
    rfl
  · obtain ⟨ld, pl, lim, ws, L, R, r, rfl, h1, h2, hi, hl, k⟩ := h
    refine ⟨_, pss_cons (ps_set (i := 3) sc_lf.nd rfl (Or.inr rfl) (pe_fn G1 hr T.g_pileOn (pa_cons (pv 1) (pa_cons (pv 2) pa_nil))))
      (pss_one (ps_ret (pe_lc (own := [("many", 4)]) (g := gName 4) rfl sc_lf.nd (pi_range2 (by rfl) T.z_range (pa_cons pe_int (pa_cons (pe_op op_add (pe_len T.z_len (pv 3)) pe_int) pa_nil))) (blkOk_by (N := ["load", "piles", "side", "pile", "many"]) (sc := defScope s_liftsFrom) (by decide +kernel))
        (fun _ _ _ _ _ => pg_name (i := 4) sc_lf.nd rfl (Or.inl rfl))
        (fun _ _ _ _ _ => pts_one (pt_cmpR op_le (pe_fn G2 hr T.g_weigh (pa_cons (pv 0) (pa_cons (pe_slice sl_tup' (pv 3) (po_some (pe_op op_sub (pe_len T.z_len (pv 3)) (pv 4))) po_none) pa_nil))) (pe_at (pv 0) pe_int) (nomark _)))
        (fun _ _ _ _ _ => pe_tup (pa_cons (pv 2) (pa_cons (pv 4) pa_nil)))))), ?_⟩
    refine ⟨_, rfl, _, rfl, pl, L, R, r, rfl, h2, fun q hq => ?_⟩
    generalize hpile : (if r then R else L) = pile at hi hl hq k
    refine ⟨_, rfl, _, _, rfl, .inl hq, _, _, rfl, rfl, 1, ((pile.map V.int).length : Int) + 1, rfl, ?_, fun D hD => ?_⟩
    · rw [List.length_map]
      omega
    · have en : ((((pile.map V.int).length : Int) + 1) - 1).toNat = pile.length := by rw [List.length_map]; omega
      rw [en]
      refine lc_range (lo := 1) (n := pile.length) (fun i H' => Same H H' ∧ ∃ acc, H' D = some (.lst acc) ∧ DAs Tp H' (lfD r (canK lim ws pile i)) acc) ⟨Same.new hD, [], upd_same, DAs.nil⟩ ?_ ?_
      · rintro i H' hlt ⟨s1, acc, hd, hda⟩
        obtain ⟨a, wa, rfl, g1, g2⟩ := ldD_I h1
        refine ⟨rfl, _, rfl, _, rfl, _, rfl, _, _, rfl, .inl (s1.at hq), _, rfl, _, _, rfl, rfl, _, rfl, _, _, rfl, s1.at hq, fun u H2 s2 hu => ?_⟩
        have em : ((pile.map V.int).length : Int) - (1 + (i : Int)) = (pile.length : Int) - ((i + 1 : Nat) : Int) := by rw [List.length_map]; omega
        rw [em, cut_top (by omega)] at hu
        have s02 : Same H H2 := s1.trans s2
        refine ⟨_, lim, ws, u, topN pile (i + 1), rfl, (DA.same h1 s02), hu, fun j hj => hi j (top_mem hj), by have := top_len pile (i + 1); omega, fun H3 s3 => ?_⟩
        have s03 : Same H H3 := s02.trans s3
        refine ⟨_, rfl, _, _, _, _, rfl, rfl, .inl (s03.at g1), rfl, _, _, rfl, rfl, _, rfl, ?_⟩
        have hd3 := s3.at (s2.at hd)
        have hda3 := (hda.same s2).same s3
        by_cases c : wsum ws (topN pile (i + 1)) ≤ lim
        · refine if_true_of (decide_eq_true c) ?_
          refine ⟨_, rfl, _, rfl, fit' (by show 2 ≤ 1000000; decide), fun t ht => ?_⟩
          have ntD : t ≠ D := fun z => by rw [z, hd3] at ht; cases ht
          refine ⟨acc, (upd_ne ntD.symm).trans hd3, ?_, ?_⟩
          · rw [hda.length]
            unfold lfD
            rw [List.length_map]
            have := canK_len lim ws pile i
            exact fit (by omega)
          · refine ⟨(s03.put (D := t) (s03.free ht)).put hD, _, upd_same, ?_⟩
            rw [canK_yes c]
            unfold lfD
            rw [List.map_append]
            have kk : Keep (fun b => b = D) H3 (upd (upd H3 t (.tup [.str (sd r), .int (1 + (i : Int))])) D (.lst (acc ++ [.ref t]))) := (Keep.new ht).trans (Keep.set ((upd_ne ntD.symm).trans hd3) rfl)
            refine DAs.append (hda3.kp kk) (DAs.cons ?_ DAs.nil)
            have e1 : (1 + (i : Int)) = ((i + 1 : Nat) : Int) := by omega
            exact DA.tup ((upd_ne ntD).trans upd_same) (DAs.cons DA.str (DAs.cons (by rw [e1]; exact DA.int) DAs.nil))
        · refine if_false_of (decide_eq_false c) ?_
          rw [canK_no c]
          exact ⟨s03, acc, hd3, hda3⟩
      · rintro H' ⟨s1, acc, hd, hda⟩
        exact k H' D acc s1 hD hd hda
end
end Tw
set_option Elab.async false
set_option linter.all false
set_option maxRecDepth 100000
set_option maxHeartbeats 4000000
/-! the errors' making; lifts, lifted, lift_all -/
namespace Tw
open PySem PySem.Spec PyProof.Rows L2
/-! ### the errors -/
/-- what an f-string takes: a short text, an int of known size -/
def FmtOk : V → Prop
  | .int i => i.natAbs.log2 < 1920
  | .str s => s.length ≤ 1000
  | _ => False
def spEr (C : Addr) (f : Str) : Sp := fun vs H Q _ => ∃ (a : Addr) (v : V), vs = [.ref a, v] ∧ H a = some (exo a C none) ∧ FmtOk v ∧ ∀ d, H d = none → d ≠ a → Q .non (upd (upd H d (exd d [(f, v)])) a (exo a C (some d)))
theorem js_empty (x : Str) : Str.empty ++ x = x := PySem.Str.append_left_empty rfl
/-- a text, a short value, a text: the pieces of an f-string -/
theorem js3 {x z : Str} {i : Nat} {v : V} {σ : L2.St} {H : Hp} {Q : Str → Hp → Prop} (hx : x.length ≤ 1000) (hz : z.length ≤ 1000) (h : σ[i]? = some (some v)) (hv : FmtOk v) (q : ∀ y, Q y H) : tJs [tC (.str x), tFmt (tVar i), tC (.str z)] Str.empty σ H Q := by
  have hl : sizeLine = 16777216 := sizeLine_eq
  refine ⟨x, rfl, by rw [js_empty]; omega, v, h, ?_⟩
  cases v with
  | int j =>
    have e := int_text_len_1921 (i := j) hv
    refine .inr ⟨j, rfl, hv, _, rfl, ?_, z, rfl, ?_, q _⟩
    · rw [js_empty, PySem.Str.length_append]
      show x.length + (PySem.Str.ofString (toString j)).length ≤ sizeLine
      omega
    · rw [js_empty, PySem.Str.length_append, PySem.Str.length_append]
      show x.length + (PySem.Str.ofString (toString j)).length + z.length ≤ sizeLine
      omega
  | str y =>
    have e : y.length ≤ 1000 := hv
    refine .inl ⟨y, rfl, by omega, y, rfl, ?_, z, rfl, ?_, q _⟩
    · rw [js_empty, PySem.Str.length_append]
      omega
    · rw [js_empty, PySem.Str.length_append, PySem.Str.length_append]
      omega
  | _ => exact (show False from hv).elim
/-- .. without the last text -/
theorem js2 {x : Str} {i : Nat} {v : V} {σ : L2.St} {H : Hp} {Q : Str → Hp → Prop} (hx : x.length ≤ 1000) (h : σ[i]? = some (some v)) (hv : FmtOk v) (q : ∀ y, Q y H) : tJs [tC (.str x), tFmt (tVar i)] Str.empty σ H Q := by
  have hl : sizeLine = 16777216 := sizeLine_eq
  refine ⟨x, rfl, by rw [js_empty]; omega, v, h, ?_⟩
  cases v with
  | int j =>
    have e := int_text_len_1921 (i := j) hv
    refine .inr ⟨j, rfl, hv, _, rfl, ?_, q _⟩
    rw [js_empty, PySem.Str.length_append]
    show x.length + (PySem.Str.ofString (toString j)).length ≤ sizeLine
    omega
  | str y =>
    have e : y.length ≤ 1000 := hv
    refine .inl ⟨y, rfl, by omega, y, rfl, ?_, q _⟩
    rw [js_empty, PySem.Str.length_append]
    omega
  | _ => exact (show False from hv).elim
section
variable {P : Program} {w : World} {K : PySem.W.Frag} {mg : Str → Option Value} {base : Heap} {A : Ad}
theorem sc_few : FnScope ["self", "many"] ["self", "many"] (defScope s_TooFew_init) := ⟨rfl, rfl, rfl, by decide +kernel, rfl, by decide +kernel, by decide +kernel⟩
theorem ok_few {f : Addr} {fd : FuncData} (F : Fun K "__init__" "TooFew.__init__" s_TooFew_init f fd) (T : TxG K mg A) (TE : TxE K A) : FnOk P w K mg base CX0 1 f fd ["self", "many"] (spEr A.cTooFew "many") := by
  refine F.ok sc_few (fun vs H Q E h => ?_) (fun cdv A' outer s H vs Q E hr h => ?_)
  · obtain ⟨a, v, rfl, _⟩ := h
    rfl
  · obtain ⟨a, v, rfl, ha, hv, k⟩ := h
    refine ⟨_, pss_cons (ps_expr (pe_binit base_Lk (by rfl) T.z_LookupError PyProof.Rows.Boot.«LookupError» TE.v_Lk (pa_cons (pv 0) (pa_cons (pe_joined (.cons pe_str (.cons (pe_fmt (pv 1)) (.cons pe_str .nil)))) pa_nil))))
      (pss_one (ps_osb base_Lk (pv 0) (pv 1))), ?_⟩
    refine ⟨_, rfl, js3 (by decide +kernel) (by decide +kernel) rfl hv fun y => ?_⟩
    refine ⟨a, A.cTooFew, _, rfl, (by show 1 ≤ 1000; decide), TE.e_TooFew, ha, _, rfl, _, rfl, a, A.cTooFew, rfl, TE.e_TooFew, TE.n_TooFew, ha, k⟩
theorem sc_empty : FnScope ["self", "side"] ["self", "side"] (defScope s_Empty_init) := ⟨rfl, rfl, rfl, by decide +kernel, rfl, by decide +kernel, by decide +kernel⟩
theorem ok_empty {f : Addr} {fd : FuncData} (F : Fun K "__init__" "Empty.__init__" s_Empty_init f fd) (T : TxG K mg A) (TE : TxE K A) : FnOk P w K mg base CX0 1 f fd ["self", "side"] (spEr A.cEmpty "side") := by
  refine F.ok sc_empty (fun vs H Q E h => ?_) (fun cdv A' outer s H vs Q E hr h => ?_)
  · obtain ⟨a, v, rfl, _⟩ := h
    rfl
  · obtain ⟨a, v, rfl, ha, hv, k⟩ := h
    refine ⟨_, pss_cons (ps_expr (pe_binit base_Lk (by rfl) T.z_LookupError PyProof.Rows.Boot.«LookupError» TE.v_Lk (pa_cons (pv 0) (pa_cons (pe_joined (.cons pe_str (.cons (pe_fmt (pv 1)) (.cons pe_str .nil)))) pa_nil))))
      (pss_one (ps_osb base_Lk (pv 0) (pv 1))), ?_⟩
    refine ⟨_, rfl, js3 (by decide +kernel) (by decide +kernel) rfl hv fun y => ?_⟩
    refine ⟨a, A.cEmpty, _, rfl, (by show 1 ≤ 1000; decide), TE.e_Empty, ha, _, rfl, _, rfl, a, A.cEmpty, rfl, TE.e_Empty, TE.n_Empty, ha, k⟩
theorem sc_heavy : FnScope ["self", "weight"] ["self", "weight"] (defScope s_TooHeavy_init) := ⟨rfl, rfl, rfl, by decide +kernel, rfl, by decide +kernel, by decide +kernel⟩
theorem ok_heavy {f : Addr} {fd : FuncData} (F : Fun K "__init__" "TooHeavy.__init__" s_TooHeavy_init f fd) (T : TxG K mg A) (TE : TxE K A) : FnOk P w K mg base CX0 1 f fd ["self", "weight"] (spEr A.cTooHeavy "weight") := by
  refine F.ok sc_heavy (fun vs H Q E h => ?_) (fun cdv A' outer s H vs Q E hr h => ?_)
  · obtain ⟨a, v, rfl, _⟩ := h
    rfl
  · obtain ⟨a, v, rfl, ha, hv, k⟩ := h
    refine ⟨_, pss_cons (ps_expr (pe_binit base_Ov (by rfl) T.z_OverflowError PyProof.Rows.Boot.«OverflowError» TE.v_Ov (pa_cons (pv 0) (pa_cons (pe_joined (.cons pe_str (.cons (pe_fmt (pv 1)) .nil))) pa_nil))))
      (pss_one (ps_osb base_Ov (pv 0) (pv 1))), ?_⟩
    refine ⟨_, rfl, js2 (by decide +kernel)  rfl hv fun y => ?_⟩
    refine ⟨a, A.cTooHeavy, _, rfl, (by show 1 ≤ 1000; decide), TE.e_TooHeavy, ha, _, rfl, _, rfl, a, A.cTooHeavy, rfl, TE.e_TooHeavy, TE.n_TooHeavy, ha, k⟩
end
end Tw
set_option Elab.async false
set_option linter.all false
set_option maxRecDepth 100000
set_option maxHeartbeats 4000000
/-! lifts, lifted, lift_all -/
namespace Tw
open PySem PySem.Spec PyProof.Rows L2
/-! ### sizes -/
def Bd (lim : Int) (ws : List Int) : Prop := (0 ≤ lim ∧ lim ≤ 1000000000) ∧ ∀ w ∈ ws, 0 ≤ w ∧ w ≤ 1000000000
theorem fmt_of {i : Int} (h0 : 0 ≤ i) (h1 : i < 2 ^ 60) : FmtOk (.int i) := by
  show i.natAbs.log2 < 1920
  by_cases e : i.natAbs = 0
  · rw [e]
    decide
  · have h2 : i.natAbs < 2 ^ 60 := by omega
    have h3 := (Nat.log2_lt e).mpr h2
    omega
theorem wt_mem {ws : List Int} {i : Int} (h0 : 0 ≤ i) (h1 : i < ws.length) : wt ws i ∈ ws := by
  have hl : i.toNat < ws.length := by omega
  unfold wt
  rw [List.getD_eq_getElem?_getD, List.getElem?_eq_getElem hl]
  exact List.getElem_mem hl
theorem wsum_bd {ws : List Int} (hw : ∀ w ∈ ws, 0 ≤ w ∧ w ≤ 1000000000) : ∀ {p : List Int}, InW ws p → 0 ≤ wsum ws p ∧ wsum ws p ≤ (p.length : Int) * 1000000000
  | [], _ => by
    show (0 : Int) ≤ 0 ∧ (0 : Int) ≤ 0 * 1000000000
    omega
  | i :: p, h => by
    have hi := h i List.mem_cons_self
    have ih := wsum_bd hw (p := p) fun j hj => h j (List.mem_cons_of_mem _ hj)
    have hm := hw _ (wt_mem hi.1 hi.2)
    have e : wsum ws (i :: p) = wt ws i + wsum ws p := by
      unfold wsum
      rw [List.map_cons, List.sum_cons]
    rw [e, List.length_cons]
    omega
theorem InW.top {ws p : List Int} (h : InW ws p) (m : Nat) : InW ws (topN p m) := fun j hj => h j (top_mem hj)
theorem InW.rest {ws p : List Int} (h : InW ws p) (m : Nat) : InW ws (restN p m) := fun j hj => h j (rest_mem hj)
theorem InW.app {ws p q : List Int} (h : InW ws p) (g : InW ws q) : InW ws (p ++ q) := fun j hj => (List.mem_append.mp hj).elim (h j) (g j)
theorem InW.side {ws L R : List Int} (hL : InW ws L) (hR : InW ws R) (r : Bool) : InW ws (if r then R else L) := by
  cases r
  · exact hL
  · exact hR
theorem len_side {L R : List Int} {n : Nat} (hL : L.length ≤ n) (hR : R.length ≤ n) (r : Bool) : (if r then R else L).length ≤ n := by
  cases r
  · exact hL
  · exact hR
/-! ### lifts -/
def spLifts : Sp := fun vs H Q _ => ∃ (ld pl : V) (lim : Int) (ws L R : List Int), vs = [ld, pl] ∧ DA Tp H (ldD lim ws) ld ∧ DA Tp H (pD L R) pl ∧ InW ws L ∧ InW ws R ∧ L.length ≤ 1000 ∧ R.length ≤ 1000 ∧
  ∀ H' p xs, Same H H' → H p = none → H' p = some (.lst xs) → DAs Tp H' ((can lim ws L R).map liftD) xs → Q (.ref p) H'
theorem can_D (lim : Int) (ws L R : List Int) : (can lim ws L R).map liftD = lfD false (canN lim ws L) ++ lfD true (canN lim ws R) := by
  unfold can lfD
  rw [List.map_append, List.map_map, List.map_map]
  rfl
/-! ### the errors' raising -/
def erC (A : Ad) : Er → Addr
  | .few _ => A.cTooFew
  | .heavy _ => A.cTooHeavy
  | .empty _ => A.cEmpty
def erN : Er → Str
  | .few _ => "many"
  | .heavy _ => "weight"
  | .empty _ => "side"
def erV : Er → V
  | .few n => .int n
  | .heavy w => .int w
  | .empty r => .str (sd r)
/-- what is wished of an error that nothing but itself has changed -/
def ErP (A : Ad) (E : XK) (H : Hp) (e : Er) : Prop := ∀ H' d, Same H H' → H d = none → H' d = some (.xd [(erN e, erV e)]) → E (.ref (erC A e)) (some d) H'
theorem er_heap {H : Hp} {a d : Addr} {o1 o2 o3 o4 : HO} (ha : H a = none) (hd : H d = none) : Same H (upd (del (upd (upd (upd H a o1) d o2) a o3) a) d o4) := fun b o e => by
  have n1 := ne_of_none e ha
  have n2 := ne_of_none e hd
  rw [upd_ne n2, del_ne n1, upd_ne n1, upd_ne n2, upd_ne n1]
  exact e
theorem er_go {C : Addr} {f : Str} {v : V} {H : Hp} {Q E : XK} (hv : FmtOk v) (q : ∀ H' d, Same H H' → H d = none → H' d = some (.xd [(f, v)]) → Q (.ref C) (some d) H') : ∀ a, H a = none →
    spEr C f [.ref a, v] (upd H a (exo a C none)) (fun v H2 => v = .non ∧ ∃ (d : Addr) (fs : List (Str × V)), H2 a = some (exo a C (some d)) ∧ H2 d = some (exd d fs) ∧ H d = none ∧ Q (.ref C) (some d) (upd (del H2 a) d (.xd fs))) E := fun a ha =>
  ⟨a, v, rfl, upd_same, hv, fun d hd hne => by
    have hd' : H d = none := by rw [upd_ne hne] at hd; exact hd
    exact ⟨rfl, d, _, upd_same, (upd_ne hne).trans upd_same, hd', q _ d (er_heap ha hd') hd' upd_same⟩⟩
/-! ### lifted -/
theorem liftD_I {M : Addr → Prop} {H : Hp} {r : Bool} {m : Nat} {v : V} (h : DA M H (liftD (r, m)) v) : ∃ t, v = .ref t ∧ H t = some (.tup [.str (sd r), .int m]) := by
  obtain ⟨a, xs, e, h1, h2⟩ := h.tupI
  obtain ⟨x, q, ex, h3, h4⟩ := h2.inv
  obtain ⟨y, q', ey, h5, h6⟩ := h4.inv
  have e3 := h3.strI
  have e5 := h5.intI
  subst ex ey e3 e5
  rw [h6.inv0] at h1
  exact ⟨a, e, h1⟩
def spLifted (A : Ad) : Sp := fun vs H Q E => ∃ (ld pl lf : V) (lim : Int) (ws L R : List Int) (r : Bool) (m : Nat), vs = [ld, pl, lf] ∧ DA Tp H (ldD lim ws) ld ∧ DA Tp H (pD L R) pl ∧ DA Tp H (liftD (r, m)) lf ∧ InW ws L ∧ InW ws R ∧ L.length ≤ 1000 ∧ R.length ≤ 1000 ∧ Bd lim ws ∧
  (∀ e, liftP lim ws L R r m = .error e → ErP A E H e) ∧ (∀ q, liftP lim ws L R r m = .ok q → ∀ H' v, Same H H' → DA Tp H' (pD q.1 q.2) v → Q v H')
section
variable {P : Program} {w : World} {K : PySem.W.Frag} {mg : Str → Option Value} {base : Heap} {A : Ad}
theorem sc_lifts : FnScope ["load", "piles"] ["load", "piles"] (defScope s_lifts) := ⟨rfl, rfl, rfl, by decide +kernel, rfl, by decide +kernel, by decide +kernel⟩
theorem ok_lifts {f : Addr} {fd : FuncData} (F : Fun K "lifts" "lifts" s_lifts f fd) (T : TxG K mg A) (G : Cal P w K mg base CX0 2 A.liftsFrom ["load", "piles", "side"] spLiftsFrom) : FnOk P w K mg base CX0 3 f fd ["load", "piles"] spLifts := by
  refine F.ok sc_lifts (fun vs H Q E h => ?_) (fun cdv A' outer s H vs Q E hr h => ?_)
  · obtain ⟨ld, pl, lim, ws, L, R, rfl, _⟩ := h
    rfl
  · obtain ⟨ld, pl, lim, ws, L, R, rfl, h1, h2, iL, iR, lL, lR, k⟩ := h
    obtain ⟨t1, g1⟩ := T.g_LEFT
    obtain ⟨t2, g2⟩ := T.g_RIGHT
    refine ⟨_, pss_one (ps_ret (pe_op op_cat (pe_fn G hr T.g_liftsFrom (pa_cons (pv 0) (pa_cons (pv 1) (pa_cons (pe_glob (v := .str "left") rfl g1 ⟨_, rfl⟩) pa_nil)))) (pe_fn G hr T.g_liftsFrom (pa_cons (pv 0) (pa_cons (pv 1) (pa_cons (pe_glob (v := .str "right") rfl g2 ⟨_, rfl⟩) pa_nil)))))), ?_⟩
    refine ⟨_, rfl, _, rfl, ld, pl, lim, ws, L, R, false, rfl, h1, h2, iL, lL, fun H1 p xs s1 np hp hx => ?_⟩
    refine ⟨_, rfl, _, rfl, ld, pl, lim, ws, L, R, true, rfl, h1.same s1, h2.same s1, iR, lR, fun H2 q ys s2 nq hq hy => ?_⟩
    have l1 := hx.length
    have l2 := hy.length
    have c1 := can_len lim ws L
    have c2 := can_len lim ws R
    have e1 : (lfD false (canN lim ws L)).length = (canN lim ws L).length := by unfold lfD; rw [List.length_map]
    have e2 : (lfD true (canN lim ws R)).length = (canN lim ws R).length := by unfold lfD; rw [List.length_map]
    have l1' : xs.length = (canN lim ws L).length := l1.trans e1
    have l2' : ys.length = (canN lim ws R).length := l2.trans e2
    refine ⟨p, q, xs, ys, rfl, rfl, s2.at hp, hq, fit' (by omega), fun z hz => ?_⟩
    refine k _ z _ ((s1.trans s2).trans (Same.new hz)) ((s1.trans s2).free hz) upd_same ?_
    rw [can_D]
    exact (DAs.append (hx.same s2) hy).same (Same.new hz)
theorem sc_lifted : FnScope ["load", "piles", "lift", "side", "many", "here", "there", "top", "rest", "grown"] ["load", "piles", "lift"] (defScope s_lifted) := ⟨rfl, rfl, rfl, by decide +kernel, rfl, by decide +kernel, by decide +kernel⟩
theorem ok_lifted {f : Addr} {fd : FuncData} (F : Fun K "lifted" "lifted" s_lifted f fd) (T : TxG K mg A) (TE : TxE K A) (G1 : Cal P w K mg base CX0 1 A.plain ["piles"] spPlain) (G2 : Cal P w K mg base CX0 1 A.otherSide ["side"] spOther) (G3 : Cal P w K mg base CX0 1 A.pileOn ["piles", "side"] spPileOn)
    (G4 : Cal P w K mg base CX0 1 A.weigh ["load", "items"] spWeigh) (G5 : Cal P w K mg base CX0 1 A.TooFew_init ["self", "many"] (spEr A.cTooFew "many")) (G6 : Cal P w K mg base CX0 1 A.TooHeavy_init ["self", "weight"] (spEr A.cTooHeavy "weight")) :
    FnOk P w K mg base (L2.CX P w) 3 f fd ["load", "piles", "lift"] (spLifted A) := by
  refine F.okX sc_lifted (fun vs H Q E h => ?_) (fun cdv A' outer s H vs Q E hr h => ?_)
  · obtain ⟨ld, pl, lf, lim, ws, L, R, r, m, rfl, _⟩ := h
    rfl
  · obtain ⟨ld, pl, lf, lim, ws, L, R, r, m, rfl, h1, h2, h3, iL, iR, lL, lR, bd, kE, k⟩ := h
    obtain ⟨fd5, F5, _, b5⟩ := G5
    obtain ⟨fd6, F6, _, b6⟩ := G6
    obtain ⟨t1, g1⟩ := T.g_LEFT
    have hr1 : Room 1 _ := hr.mono (by decide)
    refine ⟨_, pss_cons (ps_asg (pv 2) (pg_tup rfl (pgs_cons (pg_name (i := 3) sc_lifted.nd rfl (.inl rfl)) (pgs_cons (pg_name (i := 4) sc_lifted.nd rfl (.inl rfl)) pgs_nil)))) <|
      pss_cons (ps_par (i := 5) (j := 6) rfl sc_lifted.nd rfl rfl (by decide) rfl rfl (pa_cons (pe_fn G3 hr1 T.g_pileOn (pa_cons (pe_fn G1 hr1 T.g_plain (pa_cons (pv 1) pa_nil)) (pa_cons (pv 3) pa_nil)))
          (pa_cons (pe_fn G3 hr1 T.g_pileOn (pa_cons (pe_fn G1 hr1 T.g_plain (pa_cons (pv 1) pa_nil)) (pa_cons (pe_fn G2 hr1 T.g_otherSide (pa_cons (pv 3) pa_nil)) pa_nil))) pa_nil)) (by rfl)) <|
      pss_cons (ps_if (pt_cmpR op_gt (pv 4) (pe_len T.z_len (pv 5)) (nomark _)) (pss_one (ps_raise rfl (takes_of rfl rfl rfl rfl) (pmk_ob base_Lk TE.e_TooFew TE.i_TooFew TE.t_TooFew F5 hr b5 .nil pass0 (by rfl) T.g_cTooFew (pa_cons (pe_len T.z_len (pv 5)) pa_nil)))) pss_nil) <|
      pss_cons (ps_set (i := 7) sc_lifted.nd rfl (.inl rfl) (pe_slice sl_tup' (pv 5) (po_some (pe_op op_sub (pe_len T.z_len (pv 5)) (pv 4))) po_none)) <|
      pss_cons (ps_if (pt_cmpR op_gt (pe_fn G4 hr1 T.g_weigh (pa_cons (pv 0) (pa_cons (pv 7) pa_nil))) (pe_at (pv 0) pe_int) (nomark _))
          (pss_one (ps_raise rfl (takes_of rfl rfl rfl rfl) (pmk_ob base_Ov TE.e_TooHeavy TE.i_TooHeavy TE.t_TooHeavy F6 hr b6 .nil pass0 (by rfl) T.g_cTooHeavy (pa_cons (pe_fn G4 hr1 T.g_weigh (pa_cons (pv 0) (pa_cons (pv 7) pa_nil))) pa_nil)))) pss_nil) <|
      pss_cons (ps_par (i := 8) (j := 9) rfl sc_lifted.nd rfl rfl (by decide) rfl rfl (pa_cons (pe_slice sl_tup' (pv 5) po_none (po_some (pe_op op_sub (pe_len T.z_len (pv 5)) (pv 4)))) (pa_cons (pe_op op_catT' (pv 6) (pv 7)) pa_nil)) (by rfl)) <|
      pss_one (ps_ret (pe_ifExp (pt_cmpR op_eq (pv 3) (pe_glob (v := .str "left") rfl g1 ⟨_, rfl⟩) (nomark _)) (pe_tup (pa_cons (pv 8) (pa_cons (pv 9) pa_nil))) (pe_tup (pa_cons (pv 9) (pa_cons (pv 8) pa_nil))))), ?_⟩
    obtain ⟨t, rfl, ht⟩ := liftD_I h3
    refine ⟨_, rfl, t, _, rfl, SqT.of ht, rfl, _, _, rfl, _, _, rfl, rfl, ?_⟩
    refine ⟨_, rfl, pl, L, R, rfl, h2, fun H1 v1 s1 d1 => ⟨_, rfl, v1, L, R, r, rfl, d1, fun p hp => ⟨_, rfl, pl, L, R, rfl, h2.same s1, fun H2 v2 s2 d2 => ⟨_, rfl, r, rfl, v2, L, R, !r, rfl, d2, fun q hq => ⟨_, _, rfl, ?_⟩⟩⟩⟩⟩
    have s02 : Same H H2 := s1.trans s2
    have hp2 := s2.at hp
    have iH := InW.side iL iR r
    have lH := len_side lL lR r
    have lT := len_side lL lR (!r)
    unfold liftP at kE k
    generalize hhere : (if r then R else L) = here at hp hp2 iH lH kE k
    generalize hthere : (if (!r) = true then R else L) = there at hq lT
    -- many > len(here)
    refine ⟨_, rfl, _, rfl, _, _, rfl, .inl hp2, _, _, rfl, rfl, _, rfl, ?_⟩
    rw [List.length_map]
    by_cases c : here.length < m
    · refine if_true_of (decide_eq_true (by omega)) ?_
      rw [if_pos c] at kE
      refine ⟨_, rfl, _, _, rfl, .inl hp2, (by show 1 ≤ 1000; decide), ?_⟩
      rw [List.length_map]
      exact er_go (fmt_of (by omega) (by omega)) fun H' d s3 nd hd => kE _ rfl H' d (s02.trans s3) (s02.free nd) hd
    · refine if_false_of (decide_eq_false (by omega)) ?_
      rw [if_neg c] at kE k
      refine ⟨_, rfl, _, rfl, _, _, rfl, .inl hp2, _, rfl, _, _, rfl, rfl, _, rfl, _, _, rfl, hp2, fun u H3 s3 hu => ?_⟩
      rw [List.length_map, cut_top (by omega)] at hu
      have s03 := s02.trans s3
      obtain ⟨a, wa, rfl, y1, y2⟩ := ldD_I h1
      have iT : InW ws (topN here m) := iH.top m
      have lTp : (topN here m).length ≤ 1000 := Nat.le_trans (top_len here m) lH
      refine ⟨_, rfl, _, rfl, _, lim, ws, u, topN here m, rfl, h1.same s03, hu, iT, by omega, fun H4 s4 => ?_⟩
      have s04 := s03.trans s4
      refine ⟨_, rfl, _, _, _, _, rfl, rfl, .inl (s04.at y1), rfl, _, _, rfl, rfl, _, rfl, ?_⟩
      have bw := wsum_bd bd.2 iT
      by_cases c2 : lim < wsum ws (topN here m)
      · refine if_true_of (decide_eq_true c2) ?_
        rw [if_pos c2] at kE
        refine ⟨_, rfl, _, rfl, _, lim, ws, u, topN here m, rfl, h1.same s04, s4.at hu, iT, by omega, fun H5 s5 => ⟨(by show 1 ≤ 1000; decide), ?_⟩⟩
        have s05 := s04.trans s5
        exact er_go (fmt_of bw.1 (by omega)) fun H' d s6 nd hd => kE _ rfl H' d (s05.trans s6) (s05.free nd) hd
      · refine if_false_of (decide_eq_false c2) ?_
        rw [if_neg c2] at kE k
        have hp4 := s4.at (s3.at hp2)
        have hq4 := s4.at (s3.at hq)
        have hu4 := s4.at hu
        refine ⟨_, rfl, _, rfl, _, _, rfl, .inl hp4, _, rfl, _, _, rfl, rfl, _, rfl, _, _, rfl, hp4, fun z H5 s5 hz => ?_⟩
        rw [List.length_map, cut_rest (by omega)] at hz
        refine ⟨_, rfl, _, rfl, _, _, _, _, rfl, rfl, s5.at hq4, s5.at hu4, by rw [List.length_map, List.length_map]; omega, fun x H6 s6 hx => ⟨_, _, rfl, ?_⟩⟩
        have hz6 := s6.at hz
        rw [← List.map_append] at hx
        have s06 := (s04.trans s5).trans s6
        refine ⟨_, rfl, rfl, _, rfl, ?_⟩
        cases r with
        | false =>
          refine if_true_of (decide_eq_true rfl) ?_
          refine ⟨_, rfl, _, rfl, fit' (by show 2 ≤ 1000000; decide), fun y hy => ?_⟩
          refine k _ rfl _ _ (s06.trans (Same.new hy)) ?_
          have e1 : L = here := hhere
          have e2 : R = there := hthere
          subst e1 e2
          exact pD_M upd_same (by rw [upd_ne (ne_of_none hz6 hy)]; exact hz6) (by rw [upd_ne (ne_of_none hx hy)]; exact hx)
        | true =>
          refine if_false_of (decide_eq_false fun z => sd_ne (V.str.inj z)) ?_
          refine ⟨_, rfl, _, rfl, fit' (by show 2 ≤ 1000000; decide), fun y hy => ?_⟩
          refine k _ rfl _ _ (s06.trans (Same.new hy)) ?_
          have e1 : R = here := hhere
          have e2 : L = there := hthere
          subst e1 e2
          exact pD_M upd_same (by rw [upd_ne (ne_of_none hx hy)]; exact hx) (by rw [upd_ne (ne_of_none hz6 hy)]; exact hz6)
end
end Tw
set_option Elab.async false
set_option linter.all false
set_option maxRecDepth 100000
set_option maxHeartbeats 4000000
/-! lift_all; the class State -/
namespace Tw
open PySem PySem.Spec PyProof.Rows L2
theorem move_len {L R : List Int} {r : Bool} {m : Nat} (h : m ≤ (if r then R else L).length) : (moveL L R r m).length + (moveR L R r m).length = L.length + R.length := by
  cases r with
  | false =>
    have h' : m ≤ L.length := h
    obtain ⟨e1, e2⟩ := top_rest_len h'
    show (restN L m).length + (R ++ topN L m).length = _
    rw [List.length_append, e1, e2]
    omega
  | true =>
    have h' : m ≤ R.length := h
    obtain ⟨e1, e2⟩ := top_rest_len h'
    show (L ++ topN R m).length + (restN R m).length = _
    rw [List.length_append, e1, e2]
    omega
theorem move_in {ws L R : List Int} (hL : InW ws L) (hR : InW ws R) (r : Bool) (m : Nat) : InW ws (moveL L R r m) ∧ InW ws (moveR L R r m) := by
  cases r with
  | false => exact ⟨hL.rest m, hR.app (hL.top m)⟩
  | true => exact ⟨hL.app (hR.top m), hR.rest m⟩
theorem liftP_ok {lim : Int} {ws L R : List Int} {r : Bool} {m : Nat} {q : List Int × List Int} (h : liftP lim ws L R r m = .ok q) : q = (moveL L R r m, moveR L R r m) ∧ m ≤ (if r then R else L).length ∧ wsum ws (topN (if r then R else L) m) ≤ lim := by
  unfold liftP at h
  by_cases c : (if r then R else L).length < m
  · rw [if_pos c] at h
    cases h
  · rw [if_neg c] at h
    by_cases c2 : lim < wsum ws (topN (if r then R else L) m)
    · rw [if_pos c2] at h
      cases h
    · rw [if_neg c2] at h
      cases h
      exact ⟨rfl, by omega, by omega⟩
theorem liftP_good {lim : Int} {ws L R : List Int} {r : Bool} {m : Nat} {q : List Int × List Int} (h : liftP lim ws L R r m = .ok q) (hL : InW ws L) (hR : InW ws R) : (InW ws q.1 ∧ InW ws q.2) ∧ q.1.length + q.2.length = L.length + R.length := by
  obtain ⟨rfl, h1, _⟩ := liftP_ok h
  exact ⟨move_in hL hR r m, move_len h1⟩
theorem liftsP_ok {lim : Int} {ws L R : List Int} {r : Bool} {m : Nat} {t : List (Bool × Nat)} {q : List Int × List Int} (h : liftP lim ws L R r m = .ok q) : liftsP lim ws L R ((r, m) :: t) = liftsP lim ws q.1 q.2 t := by
  rw [liftsP, h]
theorem liftsP_er {lim : Int} {ws L R : List Int} {r : Bool} {m : Nat} {t : List (Bool × Nat)} {e : Er} (h : liftP lim ws L R r m = .error e) : liftsP lim ws L R ((r, m) :: t) = .error e := by
  rw [liftsP, h]
theorem liftsP_good {lim : Int} {ws : List Int} : ∀ {t : List (Bool × Nat)} {L R : List Int} {q : List Int × List Int}, liftsP lim ws L R t = .ok q → InW ws L → InW ws R → (InW ws q.1 ∧ InW ws q.2) ∧ q.1.length + q.2.length = L.length + R.length
  | [], L, R, q, h, hL, hR => by
    have e : (L, R) = q := Except.ok.inj h
    subst e
    exact ⟨⟨hL, hR⟩, rfl⟩
  | (r, m) :: t, L, R, q, h, hL, hR => by
    unfold liftsP at h
    cases e : liftP lim ws L R r m with
    | error z =>
      rw [e] at h
      cases h
    | ok z =>
      rw [e] at h
      obtain ⟨⟨g1, g2⟩, g3⟩ := liftP_good e hL hR
      obtain ⟨f1, f2⟩ := liftsP_good (t := t) h g1 g2
      exact ⟨f1, by omega⟩
def spLiftAll (A : Ad) : Sp := fun vs H Q E => ∃ (ld pl : V) (a : Addr) (xs : List V) (lim : Int) (ws L R : List Int) (t : List (Bool × Nat)), vs = [ld, pl, .ref a] ∧ DA Tp H (ldD lim ws) ld ∧ DA Tp H (pD L R) pl ∧ H a = some (.lst xs) ∧ DAs Tp H (t.map liftD) xs ∧ InW ws L ∧ InW ws R ∧ L.length + R.length ≤ 1000 ∧ Bd lim ws ∧
  (∀ e, liftsP lim ws L R t = .error e → ErP A E H e) ∧ (∀ q, liftsP lim ws L R t = .ok q → ∀ H' v, Same H H' → DA Tp H' (pD q.1 q.2) v → Q v H')
/-! ### states as objects -/
def stF (lim : Int) (p w : V) : List (Str × V) := [("own_limit", .int lim), ("own_piles", p), ("own_weights", w)]
theorem lk_here {k : Str} {v : V} {r : List (Str × V)} : List.lookup k ((k, v) :: r) = some v := by
  have e : (k == k) = true := beq_self_eq_true k
  simp only [List.lookup, e]
theorem lk_past {k g : Str} {v : V} {r : List (Str × V)} (h : (k == g) = false) : List.lookup k ((g, v) :: r) = List.lookup k r := by
  simp only [List.lookup, h]
theorem put_here {f : Str} {v x : V} {r : List (Str × V)} : putF f v ((f, x) :: r) = (f, v) :: r := if_pos rfl
theorem put_past {f g : Str} {v x : V} {r : List (Str × V)} (h : ¬ g = f) : putF f v ((g, x) :: r) = (g, x) :: putF f v r := if_neg h
theorem stF_l (lim : Int) (p w : V) : (stF lim p w).lookup ("own_limit" : Str) = some (.int lim) := lk_here
theorem stF_p (lim : Int) (p w : V) : (stF lim p w).lookup ("own_piles" : Str) = some p := (lk_past (by decide +kernel)).trans lk_here
theorem stF_w (lim : Int) (p w : V) : (stF lim p w).lookup ("own_weights" : Str) = some w := (lk_past (by decide +kernel)).trans ((lk_past (by decide +kernel)).trans lk_here)
theorem stF_no {m : Str} (h1 : (m == ("own_limit" : Str)) = false) (h2 : (m == ("own_piles" : Str)) = false) (h3 : (m == ("own_weights" : Str)) = false) (lim : Int) (p w : V) : (stF lim p w).lookup m = none :=
  (lk_past h1).trans ((lk_past h2).trans ((lk_past h3).trans rfl))
theorem stF_put (lim : Int) (p w : V) : putF "own_weights" w (putF "own_piles" p (putF "own_limit" (.int lim) [])) = stF lim p w := by
  have e1 : putF "own_limit" (.int lim) [] = [(("own_limit" : Str), V.int lim)] := rfl
  rw [e1, put_past (by decide +kernel)]
  have e2 : putF "own_piles" p [] = [(("own_piles" : Str), p)] := rfl
  rw [e2, put_past (by decide +kernel), put_past (by decide +kernel)]
  rfl
/-- the state s stands at v -/
def StaAt (A : Ad) (H : Hp) (v : V) (s : Sta) : Prop := ∃ (a dx wa : Addr) (p : V), v = .ref a ∧ H a = some (.ins A.cState dx (stF s.lim p (.ref wa))) ∧ DA Tp H (pD s.L s.R) p ∧ H wa = some (.tup (s.ws.map V.int))
theorem StaAt.kp {A : Ad} {M : Addr → Prop} {H H' : Hp} {v : V} {s : Sta} (h : StaAt A H v s) (k : Keep M H H') : StaAt A H' v s := by
  obtain ⟨a, dx, wa, p, e, h1, h2, h3⟩ := h
  exact ⟨a, dx, wa, p, e, k.ins h1, h2.kp k, k.tup h3⟩
theorem StaAt.same {A : Ad} {H H' : Hp} {v : V} {s : Sta} (h : StaAt A H v s) (k : Same H H') : StaAt A H' v s := h.kp (Keep.of (M := Bt) k)
def spStInit (A : Ad) : Sp := fun vs H Q _ => ∃ (p dx wa : Addr) (s : Sta) (pl : V), vs = [.ref p, .int s.lim, pl, .ref wa] ∧ H p = some (.ins A.cState dx []) ∧ DA Tp H (pD s.L s.R) pl ∧ H wa = some (.tup (s.ws.map V.int)) ∧
  ∀ H', (∀ b o, H b = some o → b ≠ p → H' b = some o) → StaAt A H' (.ref p) s → Q .non H'
/-- a new state -/
theorem st_make {A : Ad} {H : Hp} {s : Sta} {pl : V} {wa : Addr} {Q : VK} {E : XK} (h2 : DA Tp H (pD s.L s.R) pl) (h3 : H wa = some (.tup (s.ws.map V.int))) (k : ∀ H' p, Same H H' → H p = none → StaAt A H' (.ref p) s → Q (.ref p) H') :
    ∀ x dx, H x = none → H dx = none → dx ≠ x → spStInit A [.ref x, .int s.lim, pl, .ref wa] (upd (upd H dx (.own x)) x (.ins A.cState dx [])) (fun v H2 => v = .non ∧ Q (.ref x) H2) E := fun x dx nx nd ne => by
  have s1 : Same H (upd (upd H dx (.own x)) x (.ins A.cState dx [])) := fun b o e => by
    rw [upd_ne (ne_of_none e nx), upd_ne (ne_of_none e nd)]
    exact e
  exact ⟨x, dx, wa, s, pl, rfl, upd_same, h2.same s1, s1.at h3, fun H' kp h => ⟨rfl, k H' x (Same.made nx nd kp) nx h⟩⟩
def spLoad (A : Ad) : Sp := fun vs H Q _ => ∃ (v : V) (s : Sta), vs = [v] ∧ StaAt A H v s ∧ ∀ H' r, Same H H' → DA Tp H' (ldD s.lim s.ws) r → Q r H'
def spWithPiles (A : Ad) : Sp := fun vs H Q _ => ∃ (v pl : V) (s : Sta) (L R : List Int), vs = [v, pl] ∧ StaAt A H v s ∧ DA Tp H (pD L R) pl ∧ ∀ H' p, Same H H' → H p = none → StaAt A H' (.ref p) { s with L := L, R := R } → Q (.ref p) H'
def spWithItem (A : Ad) : Sp := fun vs H Q _ => ∃ (v : V) (s : Sta) (w : Int) (r : Bool), vs = [v, .int w, .str (sd r)] ∧ StaAt A H v s ∧ s.L.length + s.R.length ≤ 1000 ∧ s.ws.length ≤ 1000 ∧ ∀ H' p, Same H H' → H p = none → StaAt A H' (.ref p) (putS s w r) → Q (.ref p) H'
def spTop (A : Ad) : Sp := fun vs H Q E => ∃ (v : V) (s : Sta) (r : Bool), vs = [v, .str (sd r)] ∧ StaAt A H v s ∧ ((pileOf s r).getLast? = none → ErP A E H (.empty r)) ∧ (∀ i, (pileOf s r).getLast? = some i → Q (.int i) H)
def spWithout (A : Ad) : Sp := fun vs H Q _ => ∃ (v : V) (s : Sta) (i : Int), vs = [v, .int i] ∧ StaAt A H v s ∧ s.L.length + s.R.length ≤ 1000 ∧ ∀ H' p, Same H H' → H p = none → StaAt A H' (.ref p) (withoutS s i) → Q (.ref p) H'
/-- the items in the piles in ascending order -/
def presentS (s : Sta) : List Int := (s.L ++ s.R).mergeSort fun x y => decide (x ≤ y)
def spPresent (A : Ad) : Sp := fun vs H Q _ => ∃ (v : V) (s : Sta), vs = [v] ∧ StaAt A H v s ∧ s.L.length + s.R.length ≤ 1000 ∧ ∀ H' p, Same H H' → H p = none → H' p = some (.lst ((presentS s).map V.int)) → Q (.ref p) H'
section
variable {P : Program} {w : World} {K : PySem.W.Frag} {mg : Str → Option Value} {base : Heap} {A : Ad}
theorem sc_liftAll : FnScope ["load", "piles", "row", "here", "lift"] ["load", "piles", "row"] (defScope s_liftAll) := ⟨rfl, rfl, rfl, by decide +kernel, rfl, by decide +kernel, by decide +kernel⟩
theorem ok_liftAll {f : Addr} {fd : FuncData} (F : Fun K "lift_all" "lift_all" s_liftAll f fd) (T : TxG K mg A) (G1 : Cal P w K mg base CX0 1 A.plain ["piles"] spPlain) (G2 : Cal P w K mg base (L2.CX P w) 3 A.lifted ["load", "piles", "lift"] (spLifted A)) :
    FnOk P w K mg base (L2.CX P w) 4 f fd ["load", "piles", "row"] (spLiftAll A) := by
  refine F.okX sc_liftAll (fun vs H Q E h => ?_) (fun cdv A' outer s H vs Q E hr h => ?_)
  · obtain ⟨ld, pl, a, xs, lim, ws, L, R, t, rfl, _⟩ := h
    rfl
  · obtain ⟨ld, pl, a, xs, lim, ws, L, R, t, rfl, h1, h2, ha, hx, iL, iR, hl, bd, kE, k⟩ := h
    refine ⟨_, pss_cons (ps_set (i := 3) sc_liftAll.nd rfl (.inl rfl) (pe_fn G1 (hr.mono (by decide)) T.g_plain (pa_cons (pv 1) pa_nil))) <|
      pss_cons (ps_for (passes_of rfl) rfl (pi_list (pv 2)) (pg_name (i := 4) sc_liftAll.nd rfl (Or.inl rfl)) (pss_one (ps_set (i := 3) sc_liftAll.nd rfl (.inl rfl) (pe_fnX G2 hr T.g_lifted (pass_on (takes_of rfl rfl rfl rfl)) (pa_cons (pv 0) (pa_cons (pv 3) (pa_cons (pv 4) pa_nil))))))) <|
      pss_one (ps_ret (pv 3)), ?_⟩
    refine ⟨_, rfl, pl, L, R, rfl, h2, fun H1 v1 s1 d1 => ?_⟩
    refine ⟨_, rfl, a, rfl, ⟨_, SqL.of (s1.at ha)⟩, for_list (K := K) (a := a) (xs := xs) (fun i σ H' => ∃ (L' R' : List Int) (v : V) (o : Option V), σ = [some ld, some pl, some (.ref a), some v, o] ∧ Same H H' ∧ DA Tp H' (pD L' R') v ∧ liftsP lim ws L R t = liftsP lim ws L' R' (t.drop i) ∧ InW ws L' ∧ InW ws R' ∧ L'.length + R'.length ≤ 1000)
      ⟨L, R, v1, none, rfl, s1, d1, by rw [List.drop_zero], iL, iR, hl⟩ (fun i σ H' _ q => by obtain ⟨_, _, _, _, _, s2, _⟩ := q; exact SqL.of (s2.at ha)) ?_ ?_⟩
    · rintro i x σ H' hix ⟨L', R', v, o, rfl, s2, d2, e2, iL', iR', hl'⟩
      obtain ⟨d, hd, dx⟩ := hx.getV hix
      rw [List.getElem?_map] at hd
      cases ht : t[i]? with
      | none =>
        rw [ht] at hd
        cases hd
      | some q =>
        rw [ht] at hd
        obtain ⟨r, m⟩ := q
        have hd' : liftD (r, m) = d := Option.some.inj hd
        subst hd'
        have hlt := (List.getElem?_eq_some_iff.mp ht).1
        have edrop : t.drop i = (r, m) :: t.drop (i + 1) := by
          rw [List.drop_eq_getElem_cons hlt]
          have := (List.getElem?_eq_some_iff.mp ht).2
          rw [this]
        rw [edrop] at e2
        refine ⟨_, rfl, _, rfl, _, rfl, ld, v, x, lim, ws, L', R', r, m, rfl, h1.same s2, d2, dx.same s2, iL', iR', by omega, by omega, bd, fun e he => ?_, fun q he H3 v3 s3 d3 => ?_⟩
        · have z : liftsP lim ws L R t = .error e := e2.trans (liftsP_er he)
          exact fun H'' d s4 nd hd => kE e z H'' d (s2.trans s4) (s2.free nd) hd
        · obtain ⟨⟨g1, g2⟩, g3⟩ := liftP_good he iL' iR'
          refine ⟨q.1, q.2, v3, _, rfl, s2.trans s3, d3, ?_, g1, g2, by omega⟩
          exact e2.trans (liftsP_ok he)
    · rintro σ H' ⟨L', R', v, o, rfl, s2, d2, e2, _⟩
      have el : xs.length = t.length := by rw [hx.length, List.length_map]
      rw [el, List.drop_of_length_le (Nat.le_refl _)] at e2
      exact ⟨_, rfl, k (L', R') e2 H' v s2 d2⟩
end
end Tw
set_option Elab.async false
set_option linter.all false
set_option maxRecDepth 100000
set_option maxHeartbeats 4000000
/-! the class State's methods -/
namespace Tw
open PySem PySem.Spec PyProof.Rows L2
/-- a comprehension's scope -/
def compSc : Expr → Scope
  | .ListComp _ _ sc _ => sc
  | _ => { kind := .function, names := [], isGenerator := false, isCoroutine := false }
def valOf : Stmt → Expr
  | .Assign _ v _ => v
  | .Return (some v) _ => v
  | _ => .Constant .none 0 ⟨0, 0, 0, 0⟩
theorem present_len (s : Sta) : (presentS s).length = s.L.length + s.R.length := by
  unfold presentS
  rw [List.length_mergeSort, List.length_append]
section
variable {P : Program} {w : World} {K : PySem.W.Frag} {mg : Str → Option Value} {base : Heap} {A : Ad}
theorem sc_StInit : FnScope ["self", "limit", "piles", "weights"] ["self", "limit", "piles", "weights"] (defScope s_St_init) := ⟨rfl, rfl, rfl, by decide +kernel, rfl, by decide +kernel, by decide +kernel⟩
theorem ok_StInit {f : Addr} {fd : FuncData} (F : Fun K "__init__" "State.__init__" s_St_init f fd) (T : TxG K mg A) (TC : TxC K A) (G1 : Cal P w K mg base CX0 1 A.plain ["piles"] spPlain) : FnOk P w K mg base CX0 2 f fd ["self", "limit", "piles", "weights"] (spStInit A) := by
  refine F.ok sc_StInit (fun vs H Q E h => ?_) (fun cdv A' outer s H vs Q E hr h => ?_)
  · obtain ⟨p, dx, wa, st, pl, rfl, _⟩ := h
    rfl
  · obtain ⟨p, dx, wa, st, pl, rfl, h1, h2, h3, k⟩ := h
    refine ⟨_, pss_cons (ps_fld (pv 0) (pv 1) rfl) <| pss_cons (ps_fld (pv 0) (pe_fn G1 hr T.g_plain (pa_cons (pv 2) pa_nil)) rfl) <| pss_one (ps_fld (pv 0) (pe_tupT T.z_tuple (pv 3)) rfl), ?_⟩
    have npl : ∀ {b : Addr} {xs : List V}, H b = some (.tup xs) → b ≠ p := fun hb => ne_of hb h1 (by intro q; cases q)
    refine ⟨_, rfl, _, rfl, p, A.cState, dx, _, rfl, h1, TC.cl_State, TC.no_own_limit, (by show 0 < 1000; decide), ?_⟩
    have h2' : DA Tp (upd H p (.ins A.cState dx (putF "own_limit" (.int st.lim) []))) (pD st.L st.R) pl := by
      obtain ⟨a, l, r, e, g1, g2, g3⟩ := pD_I h2
      subst e
      exact pD_M ((upd_ne (npl g1)).trans g1) ((upd_ne (npl g2)).trans g2) ((upd_ne (npl g3)).trans g3)
    refine ⟨_, rfl, pl, st.L, st.R, rfl, h2', fun H1 v1 s1 d1 => ?_⟩
    have hp1 := s1.at (upd_same (H := H) (a := p) (o := .ins A.cState dx (putF "own_limit" (.int st.lim) [])))
    have hw1 := s1.at ((upd_ne (npl h3)).trans h3)
    refine ⟨_, rfl, p, A.cState, dx, _, rfl, hp1, TC.cl_State, TC.no_own_piles, (by show 1 < 1000; decide), ?_⟩
    have npl1 : ∀ {b : Addr} {xs : List V}, H1 b = some (.tup xs) → b ≠ p := fun hb => ne_of hb hp1 (by intro q; cases q)
    refine ⟨_, rfl, wa, _, rfl, (upd_ne (npl1 hw1)).trans hw1, _, rfl, p, A.cState, dx, _, rfl, upd_same, TC.cl_State, TC.no_own_weights, (by show 2 < 1000; decide), ?_⟩
    rw [upd_upd, stF_put]
    refine k _ (fun b o hb hne => ?_) ⟨p, dx, wa, v1, rfl, upd_same, ?_, (upd_ne (npl1 hw1)).trans hw1⟩
    · rw [upd_ne hne]
      exact s1 b o (by rw [upd_ne hne]; exact hb)
    · obtain ⟨a, l, r, e, g1, g2, g3⟩ := pD_I d1
      subst e
      exact pD_M ((upd_ne (npl1 g1)).trans g1) ((upd_ne (npl1 g2)).trans g2) ((upd_ne (npl1 g3)).trans g3)
theorem sc_StLoad : FnScope ["self"] ["self"] (defScope s_St_load) := ⟨rfl, rfl, rfl, by decide +kernel, rfl, by decide +kernel, by decide +kernel⟩
theorem ok_StLoad {f : Addr} {fd : FuncData} (F : Fun K "load" "State.load" s_St_load f fd) (T : TxG K mg A) (TC : TxC K A) : FnOk P w K mg base CX0 1 f fd ["self"] (spLoad A) := by
  refine F.ok sc_StLoad (fun vs H Q E h => ?_) (fun cdv A' outer s H vs Q E hr h => ?_)
  · obtain ⟨v, st, rfl, _⟩ := h
    rfl
  · obtain ⟨v, st, rfl, ⟨a, dx, wa, p, rfl, h1, h2, h3⟩, k⟩ := h
    refine ⟨_, pss_one (ps_ret (pe_tup (pa_cons (pe_fld (pv 0) rfl) (pa_cons (pe_fld (pv 0) rfl) pa_nil)))), ?_⟩
    refine ⟨_, rfl, a, _, dx, _, _, rfl, h1, TC.cl_State, TC.no_own_limit, stF_l _ _ _, _, rfl, a, _, dx, _, _, rfl, h1, TC.cl_State, TC.no_own_weights, stF_w _ _ _, fit' (by show 2 ≤ 1000000; decide), fun q hq => ?_⟩
    exact k _ _ (Same.new hq) (ldD_M upd_same ((upd_ne (ne_of_none h3 hq)).trans h3))
theorem sc_StWp : FnScope ["self", "piles"] ["self", "piles"] (defScope s_St_with_piles) := ⟨rfl, rfl, rfl, by decide +kernel, rfl, by decide +kernel, by decide +kernel⟩
theorem ok_StWp {f : Addr} {fd : FuncData} (F : Fun K "with_piles" "State.with_piles" s_St_with_piles f fd) (T : TxG K mg A) (TC : TxC K A) (G : Cal P w K mg base CX0 2 A.St_init ["self", "limit", "piles", "weights"] (spStInit A)) :
    FnOk P w K mg base CX0 4 f fd ["self", "piles"] (spWithPiles A) := by
  refine F.ok sc_StWp (fun vs H Q E h => ?_) (fun cdv A' outer s H vs Q E hr h => ?_)
  · obtain ⟨v, pl, st, L, R, rfl, _⟩ := h
    rfl
  · obtain ⟨v, pl, st, L, R, rfl, ⟨a, dx, wa, p, rfl, h1, h2, h3⟩, hp, k⟩ := h
    refine ⟨_, pss_one (ps_ret (pe_mk G TC.mk_State hr T.g_cState (pa_cons (pe_fld (pv 0) rfl) (pa_cons (pv 1) (pa_cons (pe_fld (pv 0) rfl) pa_nil))))), ?_⟩
    refine ⟨_, rfl, a, _, dx, _, _, rfl, h1, TC.cl_State, TC.no_own_limit, stF_l _ _ _, _, rfl, _, rfl, a, _, dx, _, _, rfl, h1, TC.cl_State, TC.no_own_weights, stF_w _ _ _, ?_⟩
    exact st_make (s := { st with L := L, R := R }) hp h3 k
theorem sc_StWi : FnScope ["self", "weight", "side", "left", "right", "new", "piles"] ["self", "weight", "side"] (defScope s_St_with_item) := ⟨rfl, rfl, rfl, by decide +kernel, rfl, by decide +kernel, by decide +kernel⟩
theorem ok_StWi {f : Addr} {fd : FuncData} (F : Fun K "with_item" "State.with_item" s_St_with_item f fd) (T : TxG K mg A) (TC : TxC K A) (G : Cal P w K mg base CX0 2 A.St_init ["self", "limit", "piles", "weights"] (spStInit A)) :
    FnOk P w K mg base CX0 4 f fd ["self", "weight", "side"] (spWithItem A) := by
  refine F.ok sc_StWi (fun vs H Q E h => ?_) (fun cdv A' outer s H vs Q E hr h => ?_)
  · obtain ⟨v, st, wv, r, rfl, _⟩ := h
    rfl
  · obtain ⟨v, st, wv, r, rfl, ⟨a, dx, wa, p, rfl, h1, h2, h3⟩, l1, l2, k⟩ := h
    obtain ⟨t1, g1⟩ := T.g_LEFT
    refine ⟨_, pss_cons (ps_asg (pe_fld (pv 0) rfl) (pg_tup rfl (pgs_cons (pg_name (i := 3) sc_StWi.nd rfl (.inl rfl)) (pgs_cons (pg_name (i := 4) sc_StWi.nd rfl (.inl rfl)) pgs_nil)))) <|
      pss_cons (ps_set (i := 5) sc_StWi.nd rfl (.inl rfl) (pe_tup (pa_cons (pe_len T.z_len (pe_fld (pv 0) rfl)) pa_nil))) <|
      pss_cons (ps_set (i := 6) sc_StWi.nd rfl (.inl rfl) (pe_ifExp (pt_cmpR op_eq (pv 2) (pe_glob (v := .str "left") rfl g1 ⟨_, rfl⟩) (nomark _)) (pe_tup (pa_cons (pe_op op_catT' (pv 3) (pv 5)) (pa_cons (pv 4) pa_nil))) (pe_tup (pa_cons (pv 3) (pa_cons (pe_op op_catT' (pv 4) (pv 5)) pa_nil))))) <|
      pss_one (ps_ret (pe_mk G TC.mk_State hr T.g_cState (pa_cons (pe_fld (pv 0) rfl) (pa_cons (pv 6) (pa_cons (pe_op op_catT' (pe_fld (pv 0) rfl) (pe_tup (pa_cons (pv 1) pa_nil))) pa_nil))))), ?_⟩
    obtain ⟨pa, l, q, rfl, y1, y2, y3⟩ := pD_I h2
    refine ⟨_, rfl, a, _, dx, _, _, rfl, h1, TC.cl_State, TC.no_own_piles, stF_p _ _ _, pa, _, rfl, SqT.of y1, rfl, _, _, rfl, _, _, rfl, rfl, ?_⟩
    refine ⟨_, rfl, a, _, dx, _, _, rfl, h1, TC.cl_State, TC.no_own_weights, stF_w _ _ _, wa, _, rfl, .inl h3, fit' (by show 1 ≤ 1000000; decide), fun n hn => ?_⟩
    rw [List.length_map]
    have s1 : Same H (upd H n (.tup [.int st.ws.length])) := Same.new hn
    generalize hH1 : upd H n (.tup [.int st.ws.length]) = H1 at s1
    have hn1 : H1 n = some (.tup [.int st.ws.length]) := by rw [← hH1, upd_same]
    -- the rest, for the new piles
    have rest : ∀ (H2 : Hp) (v2 : V), Same H H2 → DA Tp H2 (pD (putS st wv r).L (putS st wv r).R) v2 → (fun (σ : L2.St) (H' : Hp) => (tRet (tMk A.cState (spStInit A) (tCons (tFld K (tVar 0) "own_limit") (tCons (tVar 6) (tCons (tOp rCatT' (tFld K (tVar 0) "own_weights") (tTup (tCons (tVar 1) tNil))) tNil))))) { nx := fun _ H' => Q .non H', rt := Q } σ H') [some (.ref a), some (.int wv), some (.str (sd r)), some (.ref l), some (.ref q), some (.ref n), some v2] H2 := fun H2 v2 s2 d2 => by
      refine ⟨_, rfl, a, _, dx, _, _, rfl, s2.at h1, TC.cl_State, TC.no_own_limit, stF_l _ _ _, _, rfl, _, rfl, a, _, dx, _, _, rfl, s2.at h1, TC.cl_State, TC.no_own_weights, stF_w _ _ _, _, rfl, fit' (by show 1 ≤ 1000000; decide), fun m hm => ?_⟩
      have s3 : Same H2 (upd H2 m (.tup [.int wv])) := Same.new hm
      refine ⟨wa, m, _, _, rfl, rfl, s3.at (s2.at h3), upd_same, by rw [List.length_map]; show st.ws.length + 1 ≤ 1000000; omega, fun u H4 s4 hu => ?_⟩
      have e : (st.ws.map V.int ++ [V.int wv]) = (putS st wv r).ws.map V.int := by
        show _ = (st.ws ++ [wv]).map V.int
        rw [List.map_append]
        rfl
      rw [e] at hu
      exact st_make (s := putS st wv r) ((d2.same s3).same s4) hu fun H5 z s5 nz hz => k H5 z (((s2.trans s3).trans s4).trans s5) (((s2.trans s3).trans s4).free nz) hz
    refine ⟨_, rfl, rfl, _, rfl, ?_⟩
    cases r with
    | false =>
      refine if_true_of (decide_eq_true rfl) ?_
      refine ⟨_, rfl, _, rfl, l, n, _, _, rfl, rfl, s1.at y2, hn1, by rw [List.length_map]; show st.L.length + 1 ≤ 1000000; omega, fun u H2 s2 hu => ⟨_, rfl, fit' (by show 2 ≤ 1000000; decide), fun z hz => ?_⟩⟩
      have s02 := s1.trans s2
      have e : (st.L.map V.int ++ [V.int (st.ws.length : Int)]) = (st.L ++ [(st.ws.length : Int)]).map V.int := by rw [List.map_append]; rfl
      rw [e] at hu
      exact rest _ _ (s02.trans (Same.new hz)) (pD_M upd_same ((upd_ne (ne_of_none hu hz)).trans hu) ((upd_ne (ne_of_none (s02.at y3) hz)).trans (s02.at y3)))
    | true =>
      refine if_false_of (decide_eq_false fun z => sd_ne (V.str.inj z)) ?_
      refine ⟨_, rfl, _, rfl, _, rfl, q, n, _, _, rfl, rfl, s1.at y3, hn1, by rw [List.length_map]; show st.R.length + 1 ≤ 1000000; omega, fun u H2 s2 hu => ⟨fit' (by show 2 ≤ 1000000; decide), fun z hz => ?_⟩⟩
      have s02 := s1.trans s2
      have e : (st.R.map V.int ++ [V.int (st.ws.length : Int)]) = (st.R ++ [(st.ws.length : Int)]).map V.int := by rw [List.map_append]; rfl
      rw [e] at hu
      exact rest _ _ (s02.trans (Same.new hz)) (pD_M upd_same ((upd_ne (ne_of_none (s02.at y2) hz)).trans (s02.at y2)) ((upd_ne (ne_of_none hu hz)).trans hu))
theorem sc_StTop : FnScope ["self", "side", "pile"] ["self", "side"] (defScope s_St_top) := ⟨rfl, rfl, rfl, by decide +kernel, rfl, by decide +kernel, by decide +kernel⟩
theorem ok_StTop {f : Addr} {fd : FuncData} (F : Fun K "top" "State.top" s_St_top f fd) (T : TxG K mg A) (TC : TxC K A) (TE : TxE K A) (G : Cal P w K mg base CX0 1 A.pileOn ["piles", "side"] spPileOn) (G5 : Cal P w K mg base CX0 1 A.Empty_init ["self", "side"] (spEr A.cEmpty "side")) :
    FnOk P w K mg base (L2.CX P w) 3 f fd ["self", "side"] (spTop A) := by
  refine F.okX sc_StTop (fun vs H Q E h => ?_) (fun cdv A' outer s H vs Q E hr h => ?_)
  · obtain ⟨v, st, r, rfl, _⟩ := h
    rfl
  · obtain ⟨v, st, r, rfl, ⟨a, dx, wa, p, rfl, h1, h2, h3⟩, kE, k⟩ := h
    obtain ⟨fd5, F5, _, b5⟩ := G5
    refine ⟨_, pss_cons (ps_set (i := 2) sc_StTop.nd rfl (.inl rfl) (pe_fn G (hr.mono (by decide)) T.g_pileOn (pa_cons (pe_fld (pv 0) rfl) (pa_cons (pv 1) pa_nil)))) <|
      pss_cons (ps_if (pt_cmpR op_eq (pe_len T.z_len (pv 2)) pe_int (nomark _)) (pss_one (ps_raise rfl (takes_of rfl rfl rfl rfl) (pmk_ob base_Lk TE.e_Empty TE.i_Empty TE.t_Empty F5 hr b5 .nil pass0 (by rfl) T.g_cEmpty (pa_cons (pv 1) pa_nil)))) pss_nil) <|
      pss_one (ps_ret (pe_at (pv 2) (pe_un un_neg pe_int))), ?_⟩
    refine ⟨_, rfl, a, _, dx, _, _, rfl, h1, TC.cl_State, TC.no_own_piles, stF_p _ _ _, _, rfl, p, st.L, st.R, r, rfl, h2, fun q hq => ?_⟩
    have epile : (if r then st.R else st.L) = pileOf st r := rfl
    rw [epile] at hq
    generalize pileOf st r = pile at hq kE k
    refine ⟨_, rfl, _, _, rfl, .inl hq, rfl, _, rfl, ?_⟩
    rw [List.length_map]
    by_cases c : pile = []
    · subst c
      refine if_true_of (by rfl) ?_
      refine ⟨_, rfl, (by show 1 ≤ 1000; decide), er_go ?_ fun H' d s1 nd hd => kE rfl H' d s1 nd hd⟩
      cases r
      · show (("left" : Str)).length ≤ 1000
        decide +kernel
      · show (("right" : Str)).length ≤ 1000
        decide +kernel
    · have hl : pile.length ≠ 0 := fun z => c (List.length_eq_zero_iff.mp z)
      refine if_false_of (decide_eq_false fun z => hl (by have := V.int.inj z; omega)) ?_
      have hlast : pile.getLast? = some (pile.getLast c) := List.getLast?_eq_some_getLast c
      refine ⟨_, rfl, 1, rfl, _, _, _, .int (pile.getLast c), rfl, rfl, .inl hq, ?_, k _ hlast⟩
      have e : pile = pile.dropLast ++ [pile.getLast c] := (List.dropLast_concat_getLast c).symm
      have e2 : pile.map V.int = pile.dropLast.map V.int ++ [V.int (pile.getLast c)] := by
        conv => lhs; rw [e]
        rw [List.map_append]
        rfl
      rw [e2]
      exact atI_last _ _
theorem sc_StPresent : FnScope ["self"] ["self"] (defScope s_St_present) := ⟨rfl, rfl, rfl, by decide +kernel, rfl, by decide +kernel, by decide +kernel⟩
theorem ok_StPresent {f : Addr} {fd : FuncData} (F : Fun K "present" "State.present" s_St_present f fd) (T : TxG K mg A) (TC : TxC K A) : FnOk P w K mg base CX0 1 f fd ["self"] (spPresent A) := by
  refine F.ok sc_StPresent (fun vs H Q E h => ?_) (fun cdv A' outer s H vs Q E hr h => ?_)
  · obtain ⟨v, st, rfl, _⟩ := h
    rfl
  · obtain ⟨v, st, rfl, ⟨a, dx, wa, p, rfl, h1, h2, h3⟩, hl, k⟩ := h
    obtain ⟨pa, l, q, rfl, y1, y2, y3⟩ := pD_I h2
    refine ⟨_, pss_one (ps_ret (pe_callB cr_sortedT (by rfl) T.z_sorted (by decide +kernel) (pa_cons (pe_op op_catT' (pe_at (pe_fld (pv 0) rfl) pe_int) (pe_at (pe_fld (pv 0) rfl) pe_int)) pa_nil))), ?_⟩
    refine ⟨_, rfl, a, _, dx, _, _, rfl, h1, TC.cl_State, TC.no_own_piles, stF_p _ _ _, _, _, _, _, rfl, rfl, .inl y1, rfl, _, rfl, a, _, dx, _, _, rfl, h1, TC.cl_State, TC.no_own_piles, stF_p _ _ _, _, _, _, _, rfl, rfl, .inl y1, rfl, l, q, _, _, rfl, rfl, y2, y3, by rw [List.length_map, List.length_map]; omega, fun z H1 s1 hz => ?_⟩
    rw [← List.map_append] at hz
    refine ⟨z, st.L ++ st.R, rfl, SqT.of hz, fun ns' u hp ho hu => ?_⟩
    have e : ns' = presentS st := PySem.W.os_sorted_mergeSort hp ho
    subst e
    exact k _ u (s1.trans (Same.new hu)) (s1.free hu) upd_same
theorem sc_StWithout : FnScope ["self", "item", "left", "right", "pile", "its"] ["self", "item"] (defScope s_St_without) := ⟨rfl, rfl, rfl, by decide +kernel, rfl, by decide +kernel, by decide +kernel⟩
theorem ok_StWithout {f : Addr} {fd : FuncData} (F : Fun K "without" "State.without" s_St_without f fd) (T : TxG K mg A) (TC : TxC K A) (G : Cal P w K mg base CX0 4 A.St_with_piles ["self", "piles"] (spWithPiles A)) : FnOk P w K mg base CX0 5 f fd ["self", "item"] (spWithout A) := by
  refine F.ok sc_StWithout (fun vs H Q E h => ?_) (fun cdv A' outer s H vs Q E hr h => ?_)
  · obtain ⟨v, st, i, rfl, _⟩ := h
    rfl
  · obtain ⟨v, st, i, rfl, ⟨a, dx, wa, p, rfl, h1, h2, h3⟩, hl, k⟩ := h
    obtain ⟨pa, l, q, rfl, y1, y2, y3⟩ := pD_I h2
    refine ⟨_, pss_cons (ps_asg (pe_lc (own := [("pile", 4)]) (g := gName 4) (tt := tYes) rfl sc_StWithout.nd (pi_tup (pe_fld (pv 0) rfl)) (blkOk_by (N := ["self", "item", "left", "right", "pile", "its"]) (sc := defScope s_St_without) (by decide +kernel))
          (fun _ _ _ _ _ => pg_name (i := 4) sc_StWithout.nd rfl (Or.inl rfl)) (fun _ _ _ _ _ => pts_nil)
          (fun _ _ _ _ _ => pe_tupL T.z_tuple (pe_lc (own := [("its", 5)]) (g := gName 5) (wi := iTup K (tVar 4)) rfl sc_StWithout.nd (pi_tup (pv 4)) (blkOk_by (N := ["self", "item", "left", "right", "pile", "its"]) (sc := relS (compSc (valOf ((defBody s_St_without).getD 0 (.Pass ⟨0, 0, 0, 0⟩)))) (defScope s_St_without)) (by decide +kernel))
            (fun _ _ _ _ _ => pg_name (i := 5) sc_StWithout.nd rfl (Or.inl rfl)) (fun _ _ _ _ _ => pts_one (pt_cmpR op_ne (pv 5) (pv 1) (nomark _))) (fun _ _ _ _ _ => pv 5))))
        (pg_unl rfl (pgs_cons (pg_name (i := 2) sc_StWithout.nd rfl (.inl rfl)) (pgs_cons (pg_name (i := 3) sc_StWithout.nd rfl (.inl rfl)) pgs_nil)))) <|
      pss_one (ps_ret (pe_mt G TC.cl_State TC.m_St_with_piles hr (pv 0) (pa_cons (pe_tup (pa_cons (pv 2) (pa_cons (pv 3) pa_nil))) pa_nil))), ?_⟩
    have look : ∀ {H' : Hp}, Same H H' → ∀ (i : Nat) (x : V), ([V.ref l, V.ref q] : List V)[i]? = some x → ∃ (b : Addr) (ps : List Int), x = .ref b ∧ H' b = some (.tup (ps.map V.int)) ∧ [st.L, st.R][i]? = some ps ∧ ps.length ≤ 1000 := by
      intro H' s1 j x hx
      match j, hx with
      | 0, hx =>
        have e := Option.some.inj hx
        exact ⟨l, st.L, e.symm, s1.at y2, rfl, by omega⟩
      | 1, hx =>
        have e := Option.some.inj hx
        exact ⟨q, st.R, e.symm, s1.at y3, rfl, by omega⟩
      | (n + 2), hx => cases hx
    refine ⟨_, rfl, a, _, dx, _, _, rfl, h1, TC.cl_State, TC.no_own_piles, stF_p _ _ _, pa, rfl, ⟨_, SqT.of y1⟩, fun D hD => lc_tup (K := K) (a := pa) (xs := [.ref l, .ref q]) (fun j H' => Same H H' ∧ ∃ ts, H' D = some (.lst ts) ∧ ts.length ≤ j ∧ DAs Tp H' (([st.L, st.R].take j).map fun p => tI (p.filter fun z => z != i)) ts)
      ⟨Same.new hD, [], upd_same, Nat.le_refl _, DAs.nil⟩ (fun j H' _ z => SqT.of (z.1.at y1)) ?_ ?_⟩
    · rintro j x H' hx ⟨s1, ts, hd, hl1, hda⟩
      obtain ⟨b, ps, rfl, hb, hps, hlen⟩ := look s1 j x hx
      refine ⟨rfl, _, rfl, b, rfl, ⟨_, SqT.of hb⟩, fun D2 hD2 => lc_tup (K := K) (a := b) (xs := ps.map V.int) (fun n H2 => Same H' H2 ∧ H2 D2 = some (.lst (((ps.take n).filter fun z => z != i).map V.int))) ⟨Same.new hD2, upd_same⟩ (fun n H2 _ z => SqT.of (z.1.at hb)) ?_ ?_⟩
      · rintro n y H2 hy ⟨s2, hd2⟩
        obtain ⟨z, hz, rfl⟩ := int_at hy
        have hzl := (List.getElem?_eq_some_iff.mp hz).1
        refine ⟨rfl, _, rfl, _, rfl, rfl, _, rfl, ?_⟩
        by_cases c : z = i
        · refine if_false_of (by rw [c]; simp) ?_
          refine ⟨s2, ?_⟩
          rw [take_more hz, List.filter_append]
          simpa [c] using hd2
        · refine if_true_of (by simpa using c) ?_
          refine ⟨_, rfl, _, hd2, ?_, s2.put hD2, ?_⟩
          · rw [List.length_map]
            have := List.length_filter_le (fun z => z != i) (ps.take n)
            rw [List.length_take] at this
            exact fit (by omega)
          · rw [upd_same, take_more hz, List.filter_append]
            simp [c]
      · rintro H2 ⟨s2, hd2⟩
        rw [List.length_map, List.take_length] at hd2
        refine ⟨D2, _, rfl, hd2, fun u hu => ?_⟩
        have hdu : D ≠ u := fun z => by rw [← z, s2.at hd] at hu; cases hu
        have s3 : Same H (upd H2 u (.tup ((ps.filter fun z => z != i).map V.int))) := (s1.trans s2).trans (Same.new hu)
        have hj : j < 2 := (List.getElem?_eq_some_iff.mp hps).1
        refine ⟨ts, (upd_ne hdu).trans (s2.at hd), fit (by omega), s3.put hD, _, upd_same, by rw [List.length_append, List.length_singleton]; omega, ?_⟩
        rw [take_more hps, List.map_append]
        have kk : Keep (fun b => b = D) H' (upd (upd H2 u (.tup ((ps.filter fun z => z != i).map V.int))) D (.lst (ts ++ [.ref u]))) := ((Keep.of s2).trans (Keep.new hu)).trans (Keep.set ((upd_ne hdu).trans (s2.at hd)) rfl)
        exact DAs.append (hda.kp kk) (DAs.cons (DA.mkI ((upd_ne hdu.symm).trans upd_same)) DAs.nil)
    · rintro H' ⟨s1, ts, hd, _, hda⟩
      have hda' : DAs Tp H' [tI (st.L.filter fun z => z != i), tI (st.R.filter fun z => z != i)] ts := hda
      obtain ⟨x1, r1, e1, d1, g1⟩ := hda'.inv
      obtain ⟨x2, r2, e2, d2, g2⟩ := g1.inv
      have e3 := g2.inv0
      subst e1 e2 e3
      refine ⟨D, _, rfl, SqL.of hd, rfl, _, _, rfl, _, _, rfl, rfl, ?_⟩
      refine ⟨_, rfl, a, dx, _, rfl, s1.at h1, stF_no (by decide +kernel) (by decide +kernel) (by decide +kernel) _ _ _, _, rfl, _, rfl, fit' (by show 2 ≤ 1000000; decide), fun u hu => ?_⟩
      have s2 : Same H' (upd H' u (.tup [x1, x2])) := Same.new hu
      have s02 := s1.trans s2
      refine ⟨_, _, st, _, _, rfl, ⟨a, dx, wa, .ref pa, rfl, s02.at h1, h2.same s02, s02.at h3⟩, DA.tup upd_same (DAs.cons (d1.same s2) (DAs.cons (d2.same s2) DAs.nil)), fun H3 z s3 nz hz => ?_⟩
      exact k H3 z (s02.trans s3) (s02.free nz) hz
end
end Tw
set_option Elab.async false
set_option linter.all false
set_option maxRecDepth 100000
set_option maxHeartbeats 4000000
/-! a shed in the heap; its plain methods -/
namespace Tw
open PySem PySem.Spec PyProof.Rows L2
/-! ### pairs of lists -/
section
variable {α β : Type} {F G : α → β → Prop}
theorem pr_append : ∀ {xs ys : List α} {us vs : List β}, Paired F xs us → Paired F ys vs → Paired F (xs ++ ys) (us ++ vs)
  | _, _, _, _, .nil, h => h
  | _, _, _, _, .cons r t, h => .cons r (pr_append t h)
theorem pr_len {xs : List α} {us : List β} (h : Paired F xs us) : xs.length = us.length := Paired.length h
theorem pr_get : ∀ {xs : List α} {us : List β} {i : Nat} {u : β}, Paired F xs us → us[i]? = some u → ∃ x, xs[i]? = some x ∧ F x u
  | _, _, _, _, .nil, e => by simp at e
  | _, _, 0, _, .cons r _, e => by
    simp at e
    subst e
    exact ⟨_, by simp, r⟩
  | _, _, i + 1, _, .cons _ t, e => by
    obtain ⟨x, h1, h2⟩ := pr_get (i := i) t (by simpa using e)
    exact ⟨x, by simpa using h1, h2⟩
theorem pr_take : ∀ {xs : List α} {us : List β} (n : Nat), Paired F xs us → Paired F (xs.take n) (us.take n)
  | _, _, 0, _ => .nil
  | _, _, _ + 1, .nil => .nil
  | _, _, n + 1, .cons r t => .cons r (pr_take n t)
theorem pr_map : ∀ {xs : List α} {us : List β}, Paired F xs us → (∀ a b, F a b → G a b) → Paired G xs us
  | _, _, .nil, _ => .nil
  | _, _, .cons r t, f => .cons (f _ _ r) (pr_map t f)
end
/-! ### a shed -/
def shF (sl ll : Addr) : List (Str × V) := [("own_states", .ref sl), ("own_log", .ref ll)]
theorem shF_s (sl ll : Addr) : (shF sl ll).lookup ("own_states" : Str) = some (.ref sl) := lk_here
theorem shF_l (sl ll : Addr) : (shF sl ll).lookup ("own_log" : Str) = some (.ref ll) := (lk_past (by decide +kernel)).trans lk_here
theorem shF_no {m : Str} (h1 : (m == ("own_states" : Str)) = false) (h2 : (m == ("own_log" : Str)) = false) (sl ll : Addr) : (shF sl ll).lookup m = none := (lk_past h1).trans ((lk_past h2).trans rfl)
theorem shF_new (sl ll : Addr) : putF "own_log" (.ref ll) (putF "own_states" (.ref sl) []) = shF sl ll := by
  have e1 : putF "own_states" (.ref sl) [] = [(("own_states" : Str), V.ref sl)] := rfl
  rw [e1, put_past (by decide +kernel)]
  rfl
theorem shF_put (sl ll m : Addr) : putF "own_states" (.ref m) (shF sl ll) = shF m ll := put_here
/-- the lists that a shed's methods change -/
def Mx (sl ll : Addr) : Addr → Prop := fun b => b = sl ∨ b = ll
def ShedAt (A : Ad) (H : Hp) (a sl ll : Addr) (sts : List Sta) (log : List PyData) : Prop :=
  sl ≠ ll ∧ ∃ (dx : Addr) (xs ls : List V), H a = some (.ins A.cShed dx (shF sl ll)) ∧ H sl = some (.lst xs) ∧ Paired (StaAt A H) xs sts ∧ H ll = some (.lst ls) ∧ DAs Tp H log ls
section
variable {A : Ad} {H H' : Hp} {a sl ll : Addr} {sts : List Sta} {log : List PyData}
theorem ShedAt.kp {M : Addr → Prop} (h : ShedAt A H a sl ll sts log) (k : Keep M H H') (n1 : ¬ M sl) (n2 : ¬ M ll) : ShedAt A H' a sl ll sts log := by
  obtain ⟨ne, dx, xs, ls, h1, h2, h3, h4, h5⟩ := h
  exact ⟨ne, dx, xs, ls, k.ins h1, k.lst h2 n1, pr_map h3 fun _ _ z => z.kp k, k.lst h4 n2, h5.kp k⟩
theorem ShedAt.same (h : ShedAt A H a sl ll sts log) (k : Same H H') : ShedAt A H' a sl ll sts log := h.kp (Keep.of (M := Bt) k) (fun z => z) fun z => z
theorem ShedAt.old (h : ShedAt A H a sl ll sts log) {b : Addr} (n : H b = none) : b ≠ a ∧ b ≠ sl ∧ b ≠ ll := by
  obtain ⟨ne, dx, xs, ls, h1, h2, h3, h4, h5⟩ := h
  exact ⟨(ne_of_none h1 n).symm, (ne_of_none h2 n).symm, (ne_of_none h4 n).symm⟩
/-- the current state -/
theorem ShedAt.last {pre : List Sta} {s : Sta} (h : ShedAt A H a sl ll (pre ++ [s]) log) : ∃ (xs : List V) (v : V), H sl = some (.lst (xs ++ [v])) ∧ xs.length = pre.length ∧ StaAt A H v s := by
  obtain ⟨ne, dx, xs, ls, h1, h2, h3, h4, h5⟩ := h
  have hl := pr_len h3
  rw [List.length_append, List.length_singleton] at hl
  have e0 : (pre ++ [s])[pre.length]? = some s := by simp
  obtain ⟨v, hv, hs⟩ := pr_get h3 e0
  have ex : xs = xs.take pre.length ++ [v] := by
    have q := take_more hv
    rw [← q]
    exact (List.take_of_length_le (by omega)).symm
  exact ⟨xs.take pre.length, v, by rw [← ex]; exact h2, by rw [List.length_take]; omega, hs⟩
end
/-- a state as it should be: at most n items came -/
structure SOk (s : Sta) (n : Nat) : Prop where
  iL : InW s.ws s.L
  iR : InW s.ws s.R
  few : s.L.length + s.R.length ≤ s.ws.length
  le : s.ws.length ≤ n
  bd : Bd s.lim s.ws
theorem SOk.mono {s : Sta} {n m : Nat} (h : SOk s n) (l : n ≤ m) : SOk s m := ⟨h.iL, h.iR, h.few, Nat.le_trans h.le l, h.bd⟩
theorem present_mem {s : Sta} {i : Int} (h : i ∈ presentS s) : i ∈ s.L ∨ i ∈ s.R := by
  unfold presentS at h
  exact List.mem_append.mp ((List.mergeSort_perm _ _).mem_iff.mp h)
theorem SOk.pres {s : Sta} {n : Nat} (h : SOk s n) : InW s.ws (presentS s) := fun i hi => (present_mem hi).elim (h.iL i) (h.iR i)
def spNow (A : Ad) : Sp := fun vs H Q _ => ∃ (a sl ll : Addr) (pre : List Sta) (s : Sta) (log : List PyData), vs = [.ref a] ∧ ShedAt A H a sl ll (pre ++ [s]) log ∧ ∀ v, StaAt A H v s → Q v H
def spOps (A : Ad) : Sp := fun vs H Q _ => ∃ (a sl ll : Addr) (sts : List Sta) (log : List PyData), vs = [.ref a] ∧ ShedAt A H a sl ll sts log ∧ Q (.int ((sts.length : Int) - 1)) H
def spLimit (A : Ad) : Sp := fun vs H Q _ => ∃ (a sl ll : Addr) (pre : List Sta) (s : Sta) (log : List PyData), vs = [.ref a] ∧ ShedAt A H a sl ll (pre ++ [s]) log ∧ Q (.int s.lim) H
def spPiles (A : Ad) : Sp := fun vs H Q _ => ∃ (a sl ll : Addr) (pre : List Sta) (s : Sta) (log : List PyData), vs = [.ref a] ∧ ShedAt A H a sl ll (pre ++ [s]) log ∧ ∀ v, DA Tp H (pD s.L s.R) v → Q v H
def spLog (A : Ad) : Sp := fun vs H Q _ => ∃ (a sl ll : Addr) (sts : List Sta) (log : List PyData), vs = [.ref a] ∧ ShedAt A H a sl ll sts log ∧ ∀ H' p xs, Same H H' → H p = none → H' p = some (.lst xs) → DAs Tp H' log xs → Q (.ref p) H'
def weightsL (s : Sta) : List PyData := (presentS s).map fun i => .tuple [.int i, .int (wt s.ws i)]
def spWeights (A : Ad) : Sp := fun vs H Q _ => ∃ (a sl ll : Addr) (pre : List Sta) (s : Sta) (log : List PyData), vs = [.ref a] ∧ ShedAt A H a sl ll (pre ++ [s]) log ∧ SOk s 900 ∧
  ∀ H' p xs, Same H H' → H p = none → H' p = some (.lst xs) → DAs Tp H' (weightsL s) xs → Q (.ref p) H'
def spShLifts (A : Ad) : Sp := fun vs H Q _ => ∃ (a sl ll : Addr) (pre : List Sta) (s : Sta) (log : List PyData), vs = [.ref a] ∧ ShedAt A H a sl ll (pre ++ [s]) log ∧ SOk s 900 ∧
  ∀ H' p xs, Same H H' → H p = none → H' p = some (.lst xs) → DAs Tp H' ((can s.lim s.ws s.L s.R).map liftD) xs → Q (.ref p) H'
def spShLen (A : Ad) : Sp := fun vs H Q _ => ∃ (a sl ll : Addr) (pre : List Sta) (s : Sta) (log : List PyData), vs = [.ref a] ∧ ShedAt A H a sl ll (pre ++ [s]) log ∧ SOk s 900 ∧ ∀ H', Same H H' → Q (.int ((presentS s).length : Int)) H'
section
variable {P : Program} {w : World} {K : PySem.W.Frag} {mg : Str → Option Value} {base : Heap} {A : Ad}
theorem sc_now : FnScope ["self"] ["self"] (defScope s_Sh_now) := ⟨rfl, rfl, rfl, by decide +kernel, rfl, by decide +kernel, by decide +kernel⟩
theorem ok_now {f : Addr} {fd : FuncData} (F : Fun K "now" "Shed.now" s_Sh_now f fd) (TC : TxC K A) : FnOk P w K mg base CX0 1 f fd ["self"] (spNow A) := by
  refine F.ok sc_now (fun vs H Q E h => ?_) (fun cdv A' outer s H vs Q E hr h => ?_)
  · obtain ⟨a, sl, ll, pre, st, log, rfl, _⟩ := h
    rfl
  · obtain ⟨a, sl, ll, pre, st, log, rfl, h, k⟩ := h
    obtain ⟨xs, v, h2, _, hs⟩ := h.last
    obtain ⟨ne, dx, _, _, h1, _⟩ := h
    refine ⟨_, pss_one (ps_ret (pe_at (pe_fld (pv 0) rfl) (pe_un un_neg pe_int))), ?_⟩
    exact ⟨_, rfl, a, _, dx, _, _, rfl, h1, TC.cl_Shed, TC.no_own_states, shF_s _ _, 1, rfl, _, _, _, v, rfl, rfl, .inr h2, atI_last _ _, k v hs⟩
theorem sc_ops : FnScope ["self"] ["self"] (defScope s_Sh_operations) := ⟨rfl, rfl, rfl, by decide +kernel, rfl, by decide +kernel, by decide +kernel⟩
theorem ok_ops {f : Addr} {fd : FuncData} (F : Fun K "operations" "Shed.operations" s_Sh_operations f fd) (T : TxG K mg A) (TC : TxC K A) : FnOk P w K mg base CX0 1 f fd ["self"] (spOps A) := by
  refine F.ok sc_ops (fun vs H Q E h => ?_) (fun cdv A' outer s H vs Q E hr h => ?_)
  · obtain ⟨a, sl, ll, sts, log, rfl, _⟩ := h
    rfl
  · obtain ⟨a, sl, ll, sts, log, rfl, ⟨ne, dx, xs, ls, h1, h2, h3, _⟩, k⟩ := h
    refine ⟨_, pss_one (ps_ret (pe_op op_sub (pe_len T.z_len (pe_fld (pv 0) rfl)) pe_int)), ?_⟩
    refine ⟨_, rfl, a, _, dx, _, _, rfl, h1, TC.cl_Shed, TC.no_own_states, shF_s _ _, _, _, rfl, .inr h2, _, _, rfl, rfl, ?_⟩
    rw [pr_len h3]
    exact k
theorem sc_limit : FnScope ["self"] ["self"] (defScope s_Sh_limit) := ⟨rfl, rfl, rfl, by decide +kernel, rfl, by decide +kernel, by decide +kernel⟩
theorem ok_limit {f : Addr} {fd : FuncData} (F : Fun K "limit" "Shed.limit" s_Sh_limit f fd) (TC : TxC K A) (G : Cal P w K mg base CX0 1 A.Sh_now ["self"] (spNow A)) : FnOk P w K mg base CX0 2 f fd ["self"] (spLimit A) := by
  refine F.ok sc_limit (fun vs H Q E h => ?_) (fun cdv A' outer s H vs Q E hr h => ?_)
  · obtain ⟨a, sl, ll, pre, st, log, rfl, _⟩ := h
    rfl
  · obtain ⟨a, sl, ll, pre, st, log, rfl, h, k⟩ := h
    refine ⟨_, pss_one (ps_ret (pe_fld (pe_mt0 G TC.cl_Shed TC.m_Sh_now hr (pv 0)) rfl)), ?_⟩
    obtain ⟨ne, dx, _, _, h1, _⟩ := id h
    refine ⟨_, rfl, a, dx, _, rfl, h1, shF_no (by decide +kernel) (by decide +kernel) _ _, a, sl, ll, pre, st, log, rfl, h, fun v hv => ?_⟩
    obtain ⟨b, dx2, wa, p, rfl, g1, _⟩ := hv
    exact ⟨b, _, dx2, _, _, rfl, g1, TC.cl_State, TC.no_own_limit, stF_l _ _ _, k⟩
theorem sc_shpiles : FnScope ["self"] ["self"] (defScope s_Sh_piles) := ⟨rfl, rfl, rfl, by decide +kernel, rfl, by decide +kernel, by decide +kernel⟩
theorem ok_piles {f : Addr} {fd : FuncData} (F : Fun K "piles" "Shed.piles" s_Sh_piles f fd) (TC : TxC K A) (G : Cal P w K mg base CX0 1 A.Sh_now ["self"] (spNow A)) : FnOk P w K mg base CX0 2 f fd ["self"] (spPiles A) := by
  refine F.ok sc_shpiles (fun vs H Q E h => ?_) (fun cdv A' outer s H vs Q E hr h => ?_)
  · obtain ⟨a, sl, ll, pre, st, log, rfl, _⟩ := h
    rfl
  · obtain ⟨a, sl, ll, pre, st, log, rfl, h, k⟩ := h
    refine ⟨_, pss_one (ps_ret (pe_fld (pe_mt0 G TC.cl_Shed TC.m_Sh_now hr (pv 0)) rfl)), ?_⟩
    obtain ⟨ne, dx, _, _, h1, _⟩ := id h
    refine ⟨_, rfl, a, dx, _, rfl, h1, shF_no (by decide +kernel) (by decide +kernel) _ _, a, sl, ll, pre, st, log, rfl, h, fun v hv => ?_⟩
    obtain ⟨b, dx2, wa, p, rfl, g1, g2, _⟩ := hv
    exact ⟨b, _, dx2, _, _, rfl, g1, TC.cl_State, TC.no_own_piles, stF_p _ _ _, k p g2⟩
theorem sc_log : FnScope ["self"] ["self"] (defScope s_Sh_log) := ⟨rfl, rfl, rfl, by decide +kernel, rfl, by decide +kernel, by decide +kernel⟩
theorem ok_log {f : Addr} {fd : FuncData} (F : Fun K "log" "Shed.log" s_Sh_log f fd) (T : TxG K mg A) (TC : TxC K A) : FnOk P w K mg base CX0 1 f fd ["self"] (spLog A) := by
  refine F.ok sc_log (fun vs H Q E h => ?_) (fun cdv A' outer s H vs Q E hr h => ?_)
  · obtain ⟨a, sl, ll, sts, log, rfl, _⟩ := h
    rfl
  · obtain ⟨a, sl, ll, sts, log, rfl, ⟨ne, dx, xs, ls, h1, h2, h3, h4, h5⟩, k⟩ := h
    refine ⟨_, pss_one (ps_ret (pe_callTy call_list_of (by rfl) T.z_list (by decide +kernel) (pa_cons (pe_fld (pv 0) rfl) pa_nil))), ?_⟩
    refine ⟨_, rfl, a, _, dx, _, _, rfl, h1, TC.cl_Shed, TC.no_own_log, shF_l _ _, ll, ls, rfl, .inl (SqL.of h4), fun l hl => ?_⟩
    exact k _ l ls (Same.new hl) hl upd_same (h5.same (Same.new hl))
theorem sc_shlifts : FnScope ["self"] ["self"] (defScope s_Sh_lifts) := ⟨rfl, rfl, rfl, by decide +kernel, rfl, by decide +kernel, by decide +kernel⟩
theorem ok_shlifts {f : Addr} {fd : FuncData} (F : Fun K "lifts" "Shed.lifts" s_Sh_lifts f fd) (T : TxG K mg A) (TC : TxC K A) (G1 : Cal P w K mg base CX0 1 A.Sh_now ["self"] (spNow A)) (G2 : Cal P w K mg base CX0 2 A.Sh_piles ["self"] (spPiles A)) (G3 : Cal P w K mg base CX0 1 A.St_load ["self"] (spLoad A))
    (G4 : Cal P w K mg base CX0 3 A.lifts ["load", "piles"] spLifts) : FnOk P w K mg base CX0 4 f fd ["self"] (spShLifts A) := by
  refine F.ok sc_shlifts (fun vs H Q E h => ?_) (fun cdv A' outer s H vs Q E hr h => ?_)
  · obtain ⟨a, sl, ll, pre, st, log, rfl, _⟩ := h
    rfl
  · obtain ⟨a, sl, ll, pre, st, log, rfl, h, ok, k⟩ := h
    refine ⟨_, pss_one (ps_ret (pe_fn G4 hr T.g_liftsLifts (pa_cons (pe_mt0 G3 TC.cl_State TC.m_St_load (hr.mono (by decide)) (pe_mt0 G1 TC.cl_Shed TC.m_Sh_now (hr.mono (by decide)) (pv 0))) (pa_cons (pe_mt0 G2 TC.cl_Shed TC.m_Sh_piles (hr.mono (by decide)) (pv 0)) pa_nil)))), ?_⟩
    obtain ⟨ne, dx, _, _, h1, _⟩ := id h
    refine ⟨_, rfl, a, dx, _, rfl, h1, shF_no (by decide +kernel) (by decide +kernel) _ _, a, sl, ll, pre, st, log, rfl, h, fun v hv => ?_⟩
    obtain ⟨b, dx2, wa, p, ev, g1, _⟩ := id hv
    refine ⟨b, dx2, _, ev, g1, stF_no (by decide +kernel) (by decide +kernel) (by decide +kernel) _ _ _, v, st, rfl, hv, fun H1 r s1 hd => ?_⟩
    refine ⟨_, rfl, a, dx, _, rfl, s1.at h1, shF_no (by decide +kernel) (by decide +kernel) _ _, a, sl, ll, pre, st, log, rfl, h.same s1, fun pl hp => ?_⟩
    have := ok.few
    have := ok.le
    exact ⟨r, pl, st.lim, st.ws, st.L, st.R, rfl, hd, hp, ok.iL, ok.iR, by omega, by omega, fun H2 q xs s2 nq hq hx => k H2 q xs (s1.trans s2) (s1.free nq) hq hx⟩
theorem sc_shlen : FnScope ["self"] ["self"] (defScope s_Sh_len) := ⟨rfl, rfl, rfl, by decide +kernel, rfl, by decide +kernel, by decide +kernel⟩
theorem ok_shlen {f : Addr} {fd : FuncData} (F : Fun K "__len__" "Shed.__len__" s_Sh_len f fd) (T : TxG K mg A) (TC : TxC K A) (G1 : Cal P w K mg base CX0 1 A.Sh_now ["self"] (spNow A)) (G2 : Cal P w K mg base CX0 1 A.St_present ["self"] (spPresent A)) : FnOk P w K mg base CX0 2 f fd ["self"] (spShLen A) := by
  refine F.ok sc_shlen (fun vs H Q E h => ?_) (fun cdv A' outer s H vs Q E hr h => ?_)
  · obtain ⟨a, sl, ll, pre, st, log, rfl, _⟩ := h
    rfl
  · obtain ⟨a, sl, ll, pre, st, log, rfl, h, ok, k⟩ := h
    refine ⟨_, pss_one (ps_ret (pe_len T.z_len (pe_mt0 G2 TC.cl_State TC.m_St_present hr (pe_mt0 G1 TC.cl_Shed TC.m_Sh_now hr (pv 0))))), ?_⟩
    obtain ⟨ne, dx, _, _, h1, _⟩ := id h
    refine ⟨_, rfl, a, dx, _, rfl, h1, shF_no (by decide +kernel) (by decide +kernel) _ _, a, sl, ll, pre, st, log, rfl, h, fun v hv => ?_⟩
    obtain ⟨b, dx2, wa, p, ev, g1, _⟩ := id hv
    have := ok.few
    have := ok.le
    refine ⟨b, dx2, _, ev, g1, stF_no (by decide +kernel) (by decide +kernel) (by decide +kernel) _ _ _, v, st, rfl, hv, by omega, fun H1 q s1 nq hq => ⟨q, _, rfl, .inr hq, ?_⟩⟩
    rw [List.length_map]
    exact k H1 s1
theorem sc_shweights : FnScope ["self", "item"] ["self"] (defScope s_Sh_weights) := ⟨rfl, rfl, rfl, by decide +kernel, rfl, by decide +kernel, by decide +kernel⟩
theorem ok_shweights {f : Addr} {fd : FuncData} (F : Fun K "weights" "Shed.weights" s_Sh_weights f fd) (T : TxG K mg A) (TC : TxC K A) (G1 : Cal P w K mg base CX0 1 A.Sh_now ["self"] (spNow A)) (G2 : Cal P w K mg base CX0 1 A.St_present ["self"] (spPresent A)) : FnOk P w K mg base CX0 2 f fd ["self"] (spWeights A) := by
  refine F.ok sc_shweights (fun vs H Q E h => ?_) (fun cdv A' outer s H vs Q E hr h => ?_)
  · obtain ⟨a, sl, ll, pre, st, log, rfl, _⟩ := h
    rfl
  · obtain ⟨a, sl, ll, pre, st, log, rfl, h, ok, k⟩ := h
    refine ⟨_, pss_one (ps_ret (pe_lc (own := [("item", 1)]) (g := gName 1) (tt := tYes) (te := tTup (tCons (tVar 1) (tCons (tOp rAt (tFld K (tMt A.cShed "now" (spNow A) (tVar 0) tNil) "own_weights") (tVar 1)) tNil))) rfl sc_shweights.nd (pi_list (pe_mt0 G2 TC.cl_State TC.m_St_present hr (pe_mt0 G1 TC.cl_Shed TC.m_Sh_now hr (pv 0)))) (blkOk_by (N := ["self", "item"]) (sc := defScope s_Sh_weights) (by decide +kernel))
      (fun _ _ _ _ _ => pg_name (i := 1) sc_shweights.nd rfl (Or.inl rfl)) (fun _ _ _ _ _ => pts_nil)
      (fun _ _ _ _ _ => pe_tup (pa_cons (pv 1) (pa_cons (pe_at (pe_fld (pe_mt0 G1 TC.cl_Shed TC.m_Sh_now hr (pv 0)) rfl) (pv 1)) pa_nil))))), ?_⟩
    obtain ⟨ne, dx, _, _, h1, _⟩ := id h
    refine ⟨_, rfl, a, dx, _, rfl, h1, shF_no (by decide +kernel) (by decide +kernel) _ _, a, sl, ll, pre, st, log, rfl, h, fun v hv => ?_⟩
    obtain ⟨b, dx2, wa, p, ev, g1, _⟩ := id hv
    have f1 := ok.few
    have f2 := ok.le
    refine ⟨b, dx2, _, ev, g1, stF_no (by decide +kernel) (by decide +kernel) (by decide +kernel) _ _ _, v, st, rfl, hv, by omega, fun H1 q s1 nq hq => ?_⟩
    have hpl := present_len st
    refine ⟨q, rfl, ⟨_, SqL.of hq⟩, fun D hD => lc_list (K := K) (a := q) (xs := (presentS st).map V.int) (fun i H' => Same H1 H' ∧ ∃ ts, H' D = some (.lst ts) ∧ DAs Tp H' (((presentS st).take i).map fun i => .tuple [.int i, .int (wt st.ws i)]) ts)
      ⟨Same.new hD, [], upd_same, DAs.nil⟩ (fun i H' _ z => SqL.of (z.1.at hq)) ?_ ?_⟩
    · rintro i x H' hx ⟨s2, ts, hd, hda⟩
      obtain ⟨z, hz, rfl⟩ := int_at hx
      have hzl := (List.getElem?_eq_some_iff.mp hz).1
      have hin := ok.pres z (List.mem_of_getElem? hz)
      have s02 := s1.trans s2
      refine ⟨rfl, _, rfl, _, rfl, a, dx, _, rfl, s02.at h1, shF_no (by decide +kernel) (by decide +kernel) _ _, a, sl, ll, pre, st, log, rfl, h.same s02, fun v2 hv2 => ?_⟩
      obtain ⟨b', dx2', wa', p', rfl, y1, _, y3⟩ := hv2
      refine ⟨b', _, dx2', _, _, rfl, y1, TC.cl_State, TC.no_own_weights, stF_w _ _ _, _, rfl, wa', _, _, _, rfl, rfl, .inl y3, at_ints hin.1 hin.2, fit' (by show 2 ≤ 1000000; decide), fun u hu => ?_⟩
      have hdu : D ≠ u := fun z => by rw [← z, hd] at hu; cases hu
      refine ⟨ts, (upd_ne hdu).trans hd, ?_, (s2.trans (Same.new hu)).put hD, _, upd_same, ?_⟩
      · rw [hda.length, List.length_map, List.length_take]
        exact fit (by omega)
      · rw [take_more hz, List.map_append]
        have kk : Keep (fun b => b = D) H' (upd (upd H' u (.tup [.int z, .int (wt st.ws z)])) D (.lst (ts ++ [.ref u]))) := (Keep.new hu).trans (Keep.set ((upd_ne hdu).trans hd) rfl)
        exact DAs.append (hda.kp kk) (DAs.cons (DA.tup ((upd_ne hdu.symm).trans upd_same) (DAs.cons DA.int (DAs.cons DA.int DAs.nil))) DAs.nil)
    · rintro H' ⟨s2, ts, hd, hda⟩
      rw [List.length_map, List.take_length] at hda
      exact k H' D ts (s1.trans s2) (s1.free hD) hd hda
end
end Tw
set_option Elab.async false
set_option linter.all false
set_option maxRecDepth 100000
set_option maxHeartbeats 4000000
/-! the shed's operations -/
namespace Tw
open PySem PySem.Spec PyProof.Rows L2
theorem passN {X : Cx} : ∀ σ : L2.St, PassesAt (L2.CX X.prog X.w) X σ E0 := fun σ pins H s e s' I h => passL pins σ H s e s' I h
/-! ### a state's fields and methods -/
section
variable {A : Ad} {K : PySem.W.Frag} {H : Hp} {v : V} {s : Sta} {Q : VK}
theorem st_at {R : Prop} {m : Str} (h : StaAt A H v s) (k : R) (h1 : (m == ("own_limit" : Str)) = false := by decide +kernel) (h2 : (m == ("own_piles" : Str)) = false := by decide +kernel) (h3 : (m == ("own_weights" : Str)) = false := by decide +kernel) :
    ∃ a dx fs, v = .ref a ∧ H a = some (.ins A.cState dx fs) ∧ fs.lookup m = none ∧ R := by
  obtain ⟨b, dx, wa, p, ev, g1, _⟩ := h
  exact ⟨b, dx, _, ev, g1, stF_no h1 h2 h3 _ _ _, k⟩
theorem st_lim (h : StaAt A H v s) (TC : TxC K A) (k : Q (.int s.lim) H) : ∃ a C dx fs x, v = .ref a ∧ H a = some (.ins C dx fs) ∧ Cls K C ∧ NoAttr K C "own_limit" ∧ fs.lookup ("own_limit" : Str) = some x ∧ Q x H := by
  obtain ⟨b, dx, wa, p, ev, g1, _⟩ := h
  exact ⟨b, _, dx, _, _, ev, g1, TC.cl_State, TC.no_own_limit, stF_l _ _ _, k⟩
theorem st_pil (h : StaAt A H v s) (TC : TxC K A) (k : ∀ p, DA Tp H (pD s.L s.R) p → Q p H) : ∃ a C dx fs x, v = .ref a ∧ H a = some (.ins C dx fs) ∧ Cls K C ∧ NoAttr K C "own_piles" ∧ fs.lookup ("own_piles" : Str) = some x ∧ Q x H := by
  obtain ⟨b, dx, wa, p, ev, g1, g2, _⟩ := h
  exact ⟨b, _, dx, _, _, ev, g1, TC.cl_State, TC.no_own_piles, stF_p _ _ _, k _ g2⟩
theorem st_wei (h : StaAt A H v s) (TC : TxC K A) (k : ∀ wa, H wa = some (.tup (s.ws.map V.int)) → Q (.ref wa) H) : ∃ a C dx fs x, v = .ref a ∧ H a = some (.ins C dx fs) ∧ Cls K C ∧ NoAttr K C "own_weights" ∧ fs.lookup ("own_weights" : Str) = some x ∧ Q x H := by
  obtain ⟨b, dx, wa, p, ev, g1, _, g3⟩ := h
  exact ⟨b, _, dx, _, _, ev, g1, TC.cl_State, TC.no_own_weights, stF_w _ _ _, k _ g3⟩
end
/-! ### a shed's -/
def lgD (x y : Str) : PyData := .tuple [.str x, .str y]
def logD (n : Str) : List PyData := [lgD "in" n, lgD "out" n]
section
variable {A : Ad} {K : PySem.W.Frag} {H : Hp} {a sl ll : Addr} {sts pre : List Sta} {s : Sta} {log : List PyData} {Q : VK} {σ : L2.St} {i : Nat}
theorem sh_at {R : Prop} {m : Str} (h : ShedAt A H a sl ll sts log) (k : R) (h1 : (m == ("own_states" : Str)) = false := by decide +kernel) (h2 : (m == ("own_log" : Str)) = false := by decide +kernel) :
    ∃ b dx fs, V.ref a = .ref b ∧ H b = some (.ins A.cShed dx fs) ∧ fs.lookup m = none ∧ R := by
  obtain ⟨_, dx, _, _, g1, _⟩ := h
  exact ⟨a, dx, _, rfl, g1, shF_no h1 h2 _ _, k⟩
theorem mt_sh {m : Str} {sp : Sp} {t : TA} (h0 : σ[i]? = some (some (.ref a))) (h : ShedAt A H a sl ll sts log) (k : t σ H fun vs H2 => sp (.ref a :: vs) H2 Q E0) (h1 : (m == ("own_states" : Str)) = false := by decide +kernel) (h2 : (m == ("own_log" : Str)) = false := by decide +kernel) : tMt A.cShed m sp (tVar i) t σ H Q :=
  ⟨_, h0, sh_at h k h1 h2⟩
/-- o.now() -/
theorem now_go (h0 : σ[i]? = some (some (.ref a))) (h : ShedAt A H a sl ll (pre ++ [s]) log) (k : ∀ v, StaAt A H v s → Q v H) : tMt A.cShed "now" (spNow A) (tVar i) tNil σ H Q :=
  mt_sh h0 h ⟨a, sl, ll, pre, s, log, rfl, h, k⟩
theorem fl_states (h0 : σ[i]? = some (some (.ref a))) (h : ShedAt A H a sl ll sts log) (TC : TxC K A) (k : Q (.ref sl) H) : tFld K (tVar i) "own_states" σ H Q := by
  obtain ⟨_, dx, _, _, g1, _⟩ := h
  exact ⟨_, h0, a, _, dx, _, _, rfl, g1, TC.cl_Shed, TC.no_own_states, shF_s _ _, k⟩
theorem fl_log (h0 : σ[i]? = some (some (.ref a))) (h : ShedAt A H a sl ll sts log) (TC : TxC K A) (k : Q (.ref ll) H) : tFld K (tVar i) "own_log" σ H Q := by
  obtain ⟨_, dx, _, _, g1, _⟩ := h
  exact ⟨_, h0, a, _, dx, _, _, rfl, g1, TC.cl_Shed, TC.no_own_log, shF_l _ _, k⟩
theorem ShedAt.lists (h : ShedAt A H a sl ll sts log) : ∃ xs ls, H sl = some (.lst xs) ∧ xs.length = sts.length ∧ H ll = some (.lst ls) ∧ ls.length = log.length := by
  obtain ⟨_, _, xs, ls, _, h2, h3, h4, h5⟩ := h
  exact ⟨xs, ls, h2, pr_len h3, h4, h5.length⟩
theorem ShedAt.app_log {ls : List V} {v : V} {d : PyData} (h : ShedAt A H a sl ll sts log) (e : H ll = some (.lst ls)) (hv : DA Tp H d v) : ShedAt A (upd H ll (.lst (ls ++ [v]))) a sl ll sts (log ++ [d]) := by
  obtain ⟨ne, dx, xs, ls', h1, h2, h3, h4, h5⟩ := h
  rw [h4] at e
  cases e
  have k : Keep (Mx sl ll) H (upd H ll (.lst (ls ++ [v]))) := Keep.set h4 (.inr rfl)
  exact ⟨ne, dx, xs, _, k.ins h1, by rw [upd_ne ne]; exact h2, pr_map h3 fun _ _ z => z.kp k, upd_same, DAs.append (h5.kp k) (DAs.cons (hv.kp k) DAs.nil)⟩
theorem ShedAt.app_st {xs : List V} {v : V} (h : ShedAt A H a sl ll sts log) (e : H sl = some (.lst xs)) (hv : StaAt A H v s) : ShedAt A (upd H sl (.lst (xs ++ [v]))) a sl ll (sts ++ [s]) log := by
  obtain ⟨ne, dx, xs', ls, h1, h2, h3, h4, h5⟩ := h
  rw [h2] at e
  cases e
  have k : Keep (Mx sl ll) H (upd H sl (.lst (xs ++ [v]))) := Keep.set h2 (.inl rfl)
  exact ⟨ne, dx, _, ls, k.ins h1, upd_same, pr_append (pr_map h3 fun _ _ z => z.kp k) (.cons (hv.kp k) .nil), by rw [upd_ne ne.symm]; exact h4, h5.kp k⟩
theorem ShedAt.pop_st {xs : List V} (h : ShedAt A H a sl ll sts log) (e : H sl = some (.lst xs)) : ShedAt A (upd H sl (.lst xs.dropLast)) a sl ll sts.dropLast log := by
  obtain ⟨ne, dx, xs', ls, h1, h2, h3, h4, h5⟩ := h
  rw [h2] at e
  cases e
  have k : Keep (Mx sl ll) H (upd H sl (.lst xs.dropLast)) := Keep.set h2 (.inl rfl)
  have h3' : Paired (StaAt A (upd H sl (.lst xs.dropLast))) xs.dropLast sts.dropLast := by
    have e := pr_take (xs.length - 1) (pr_map (G := StaAt A (upd H sl (.lst xs.dropLast))) h3 fun _ _ z => z.kp k)
    rw [← List.dropLast_eq_take, pr_len h3, ← List.dropLast_eq_take] at e
    exact e
  exact ⟨ne, dx, _, ls, k.ins h1, upd_same, h3', by rw [upd_ne ne.symm]; exact h4, h5.kp k⟩
theorem SqL.ty {xs : List V} (h : H sl = some (.lst xs)) : tyV K "list" (.ref sl) H := Or.inl ⟨rfl, xs, SqL.of h⟩
/-- self.own_log.append((x, y)) -/
abbrev tLg (K : PySem.W.Frag) (x y : Str) : TS := tDrop (tBM K "list" rAppend (tFld K (tVar 0) "own_log") (tCons (tTup (tCons (tC (.str x)) (tCons (tC (.str y)) tNil))) tNil))
/-- self.own_states.append(e) -/
abbrev tSp (K : PySem.W.Frag) (te : TE) : TS := tDrop (tBM K "list" rAppend (tFld K (tVar 0) "own_states") (tCons te tNil))
theorem lg_go {x y : Str} {D : Ends} (TC : TxC K A) (h0 : σ[0]? = some (some (.ref a))) (h : ShedAt A H a sl ll sts log) (hl : log.length ≤ 100000) (k : ∀ H', Keep (Mx sl ll) H H' → ShedAt A H' a sl ll sts (log ++ [lgD x y]) → D.nx σ H') : tLg K x y D σ H := by
  obtain ⟨xs, ls, e1, l1, e2, l2⟩ := h.lists
  unfold tLg tDrop tBM
  refine fl_log h0 h TC ?_
  refine ⟨SqL.ty e2, fit' (by show 2 ≤ 1000000; decide), fun p hp => ?_⟩
  have s1 : Same H (upd H p (.tup [.str x, .str y])) := Same.new hp
  have e2' := s1.at e2
  refine ⟨ll, ls, _, rfl, rfl, e2', fit (by omega), ?_⟩
  exact k _ ((Keep.of s1).trans (Keep.set e2' (.inr rfl))) ((h.same s1).app_log e2' (DA.tup upd_same (DAs.cons DA.str (DAs.cons DA.str DAs.nil))))
theorem sp_in {te : TE} {D : Ends} (TC : TxC K A) (h0 : σ[0]? = some (some (.ref a))) (h : ShedAt A H a sl ll sts log) (k : te σ H fun v H' => rAppend (.ref sl) [v] H' fun _ H1 => D.nx σ H1) : tSp K te D σ H := by
  obtain ⟨xs, ls, e1, l1, e2, l2⟩ := h.lists
  unfold tSp tDrop tBM
  refine fl_states h0 h TC ?_
  exact ⟨SqL.ty e1, k⟩
theorem sp_out {H' : Hp} {v : V} {P : Hp → Prop} (h : ShedAt A H a sl ll sts log) (s1 : Same H H') (hv : StaAt A H' v s) (hl : sts.length ≤ 100000) (k : ∀ H2, Keep (Mx sl ll) H H2 → ShedAt A H2 a sl ll (sts ++ [s]) log → P H2) : rAppend (.ref sl) [v] H' fun _ H1 => P H1 := by
  obtain ⟨xs, ls, e1, l1, e2, l2⟩ := h.lists
  have e1' := s1.at e1
  exact ⟨sl, xs, v, rfl, rfl, e1', fit (by omega), k _ ((Keep.of s1).trans (Keep.set e1' (.inl rfl))) ((h.same s1).app_st e1' hv)⟩
end
end Tw
set_option Elab.async false
set_option linter.all false
set_option maxRecDepth 100000
set_option maxHeartbeats 4000000
/-! the shed's operations -/
namespace Tw
open PySem PySem.Spec PyProof.Rows L2
/-- an operation on a shed: what is given, what is wished -/
structure OpIn (A : Ad) (d : Deed) (a sl ll : Addr) (pre : List Sta) (s : Sta) (log : List PyData) (H : Hp) (Q : VK) (E : XK) : Prop where
  at_ : ShedAt A H a sl ll (pre ++ [s]) log
  ok : SOk s 900
  few : pre.length ≤ 1000
  short : log.length ≤ 10000
  yes : ∀ t s', act s d = .ok (t, s') → ∀ H' v, Keep (Mx sl ll) H H' → ShedAt A H' a sl ll ((pre ++ [s]) ++ [s']) (log ++ logD d.name) → DA Tp H' t v → Q v H'
  no : ∀ e, act s d = .error e → ∀ H' dd, Keep (Mx sl ll) H H' → H dd = none → H' dd = some (.xd [(erN e, erV e)]) → ShedAt A H' a sl ll (pre ++ [s]) (log ++ logD d.name) → E (.ref (erC A e)) (some dd) H'
def spTake (A : Ad) : Sp := fun vs H Q E => ∃ a sl ll pre s log r, vs = [.ref a, .str (sd r)] ∧ OpIn A (.take r) a sl ll pre s log H Q E
def spLift (A : Ad) : Sp := fun vs H Q E => ∃ (a sl ll : Addr) (pre : List Sta) (s : Sta) (log : List PyData) (r : Bool) (m : Nat), vs = [.ref a, .str (sd r), .int m] ∧ OpIn A (.lift r m) a sl ll pre s log H Q E
def spLiftAllM (A : Ad) : Sp := fun vs H Q E => ∃ (a sl ll ta : Addr) (xs : List V) (pre : List Sta) (s : Sta) (log : List PyData) (t : List (Bool × Nat)), vs = [.ref a, .ref ta] ∧ H ta = some (.lst xs) ∧ ¬ Mx sl ll ta ∧ DAs Tp H (t.map liftD) xs ∧ OpIn A (.liftAll t) a sl ll pre s log H Q E
def spSetL (A : Ad) : Sp := fun vs H Q E => ∃ a sl ll pre s log l, vs = [.ref a, .int l] ∧ OpIn A (.setL l) a sl ll pre s log H Q E
def spPut (A : Ad) : Sp := fun vs H Q E => ∃ a sl ll pre s log w r, vs = [.ref a, .int w, .str (sd r)] ∧ OpIn A (.put w r) a sl ll pre s log H Q E
theorem log_two (log : List PyData) (n : Str) : (log ++ [lgD "in" n]) ++ [lgD "out" n] = log ++ logD n := by
  rw [List.append_assoc]
  rfl
/-- what was free behind is free -/
theorem ShedAt.free {A : Ad} {H H1 : Hp} {a sl ll b : Addr} {sts : List Sta} {log : List PyData} (h : ShedAt A H1 a sl ll sts log) (k : Keep (Mx sl ll) H H1) (n : H1 b = none) : H b = none := by
  obtain ⟨xs, ls, e1, _, e2, _⟩ := h.lists
  cases q : H b with
  | none => rfl
  | some o =>
    by_cases m : Mx sl ll b
    · rcases m with z | z
      · rw [z, e1] at n
        cases n
      · rw [z, e2] at n
        cases n
    · rw [k b o q fun z => absurd z m] at n
      cases n
section
variable {P : Program} {w : World} {K : PySem.W.Frag} {mg : Str → Option Value} {base : Heap} {A : Ad}
theorem sc_take : FnScope ["self", "side", "item"] ["self", "side"] (defScope s_Sh_take) := ⟨rfl, rfl, rfl, by decide +kernel, rfl, by decide +kernel, by decide +kernel⟩
theorem ok_take {f : Addr} {fd : FuncData} (F : Fun K "take" "Shed.take" s_Sh_take f fd) (T : TxG K mg A) (TC : TxC K A) (G1 : Cal P w K mg base CX0 1 A.Sh_now ["self"] (spNow A)) (G2 : Cal P w K mg base (L2.CX P w) 3 A.St_top ["self", "side"] (spTop A))
    (G3 : Cal P w K mg base CX0 5 A.St_without ["self", "item"] (spWithout A)) : FnOk P w K mg base (L2.CX P w) 6 f fd ["self", "side"] (spTake A) := by
  refine F.okX sc_take (fun vs H Q E h => ?_) (fun cdv A' outer s H vs Q E hr h => ?_)
  · obtain ⟨a, sl, ll, pre, st, log, r, rfl, _⟩ := h
    rfl
  · obtain ⟨a, sl, ll, pre, st, log, r, rfl, h⟩ := h
    have hr1 := hr.mono (j := 1) (by decide)
    have hr3 := hr.mono (j := 3) (by decide)
    refine ⟨_, pss_cons (t := tLg K "in" "take") (ps_expr (pe_bm PySem.F.plainAttrs_list PySem.F.slot_list_append PySem.F.type_list_append mt_append (pe_fld (pv 0) rfl) (pa_cons (pe_tup (pa_cons pe_str (pa_cons pe_str pa_nil))) pa_nil))) <|
      pss_cons (ps_fin (tb := fun W => tSeq (tAsg (tMtX A.cState "top" (spTop A) (WE W) (tMt A.cShed "now" (spNow A) (tVar 0) tNil) (tCons (tVar 1) tNil)) (gName 2)) (tSp K (tMt A.cState "without" (spWithout A) (tMt A.cShed "now" (spNow A) (tVar 0) tNil) (tCons (tVar 2) tNil))))
          (tf := tLg K "out" "take") (tfs := tLg K "out" "take") (Wout := fun cls d _ H => E cls d H) rfl rfl rfl (takes_of rfl rfl rfl rfl)
          (fun W pn xe tk _ => pss_cons (ps_set (i := 2) sc_take.nd rfl (.inl rfl) (pe_mtX G2 TC.cl_State TC.m_St_top hr3 (fun σ => passAt tk σ) (pe_mt0 G1 TC.cl_Shed TC.m_Sh_now hr1 (pv 0)) (pa_cons (pv 1) pa_nil)))
            (pss_one (ps_expr (pe_bm PySem.F.plainAttrs_list PySem.F.slot_list_append PySem.F.type_list_append mt_append (pe_fld (pv 0) rfl) (pa_cons (pe_mt G3 TC.cl_State TC.m_St_without hr (pe_mt0 G1 TC.cl_Shed TC.m_Sh_now hr1 (pv 0)) (pa_cons (pv 2) pa_nil)) pa_nil)))))
          (pss_one (ps_expr (pe_bm PySem.F.plainAttrs_list PySem.F.slot_list_append PySem.F.type_list_append mt_append (pe_fld (pv 0) rfl) (pa_cons (pe_tup (pa_cons pe_str (pa_cons pe_str pa_nil))) pa_nil))))
          (fun a pn => pss_one (ps_expr (pe_bm PySem.F.plainAttrs_list PySem.F.slot_list_append PySem.F.type_list_append mt_append (pe_fld (pv 0) rfl) (pa_cons (pe_tup (pa_cons pe_str (pa_cons pe_str pa_nil))) pa_nil))))) <|
      pss_one (ps_ret (pv 2)), ?_⟩
    have hs := h.short
    have hf := h.few
    have hl1 := h.ok.few
    have hl2 := h.ok.le
    refine lg_go TC rfl h.at_ (by omega) fun H1 k1 h1 => ?_
    refine now_go rfl h1 fun v hv => st_at hv ?_
    refine ⟨_, rfl, v, st, r, rfl, hv, fun hn H2 dd s2 nd hd => ?_, fun i hi => ?_⟩
    · refine lg_go TC rfl (h1.same s2) (by rw [List.length_append, List.length_singleton]; omega) fun H3 k3 h3 => ?_
      rw [log_two] at h3
      have kk := (k1.trans (Keep.of s2)).trans k3
      have ea : act st (.take r) = .error (.empty r) := by simp only [act, hn]
      exact h.no _ ea H3 dd kk (h1.free k1 nd) (k3 dd _ hd fun _ ys z => by cases z) h3
    · refine sp_in TC rfl h1 ?_
      refine now_go rfl h1 fun v2 hv2 => st_at hv2 ?_
      refine ⟨_, rfl, v2, st, i, rfl, hv2, by omega, fun H2 p s2 np hp => ?_⟩
      refine sp_out h1 s2 hp (by rw [List.length_append, List.length_singleton]; omega) fun H3 k3 h3 => ?_
      refine lg_go TC rfl h3 (by rw [List.length_append, List.length_singleton]; omega) fun H4 k4 h4 => ?_
      rw [log_two] at h4
      have ea : act st (.take r) = .ok (.int i, withoutS st i) := by simp only [act, hi]
      exact ⟨_, rfl, h.yes _ _ ea H4 _ ((k1.trans k3).trans k4) h4 DA.int⟩
end
end Tw
set_option Elab.async false
set_option linter.all false
set_option maxRecDepth 100000
set_option maxHeartbeats 4000000
/-! lift, lift_all, set_limit, put, undo, __init__ -/
namespace Tw
open PySem PySem.Spec PyProof.Rows L2
theorem st_mk {A : Ad} {H : Hp} {s : Sta} {pl : V} {wa : Addr} {Pp : Addr → Hp → Prop} {E : XK} (h2 : DA Tp H (pD s.L s.R) pl) (h3 : H wa = some (.tup (s.ws.map V.int))) (k : ∀ H' p, Same H H' → H p = none → StaAt A H' (.ref p) s → Pp p H') :
    ∀ x dx, H x = none → H dx = none → dx ≠ x → spStInit A [.ref x, .int s.lim, pl, .ref wa] (upd (upd H dx (.own x)) x (.ins A.cState dx [])) (fun v H2 => v = .non ∧ Pp x H2) E :=
  fun x dx nx nd ne => by
  have s1 : Same H (upd (upd H dx (.own x)) x (.ins A.cState dx [])) := fun b o e => by
    rw [upd_ne (ne_of_none e nx), upd_ne (ne_of_none e nd)]
    exact e
  exact ⟨x, dx, wa, s, pl, rfl, upd_same, h2.same s1, s1.at h3, fun H' kp h => ⟨rfl, k H' x (Same.made nx nd kp) nx h⟩⟩
section
variable {P : Program} {w : World} {K : PySem.W.Frag} {mg : Str → Option Value} {base : Heap} {A : Ad}
theorem sc_lift : FnScope ["self", "side", "many", "here", "pile", "item"] ["self", "side", "many"] (defScope s_Sh_lift) := ⟨rfl, rfl, rfl, by decide +kernel, rfl, by decide +kernel, by decide +kernel⟩
theorem ok_lift {f : Addr} {fd : FuncData} (F : Fun K "lift" "Shed.lift" s_Sh_lift f fd) (T : TxG K mg A) (TC : TxC K A) (G1 : Cal P w K mg base CX0 1 A.Sh_now ["self"] (spNow A)) (G2 : Cal P w K mg base (L2.CX P w) 3 A.lifted ["load", "piles", "lift"] (spLifted A))
    (G3 : Cal P w K mg base CX0 4 A.St_with_piles ["self", "piles"] (spWithPiles A)) (G4 : Cal P w K mg base CX0 1 A.St_load ["self"] (spLoad A)) (G5 : Cal P w K mg base CX0 1 A.pileOn ["piles", "side"] spPileOn) : FnOk P w K mg base (L2.CX P w) 5 f fd ["self", "side", "many"] (spLift A) := by
  refine F.okX sc_lift (fun vs H Q E h => ?_) (fun cdv A' outer s H vs Q E hr h => ?_)
  · obtain ⟨a, sl, ll, pre, st, log, r, m, rfl, _⟩ := h
    rfl
  · obtain ⟨a, sl, ll, pre, st, log, r, m, rfl, h⟩ := h
    have hr1 := hr.mono (j := 1) (by decide)
    have hr3 := hr.mono (j := 3) (by decide)
    refine ⟨_, pss_cons (t := tLg K "in" "lift") (ps_expr (pe_bm PySem.F.plainAttrs_list PySem.F.slot_list_append PySem.F.type_list_append mt_append (pe_fld (pv 0) rfl) (pa_cons (pe_tup (pa_cons pe_str (pa_cons pe_str pa_nil))) pa_nil))) <|
      pss_cons (ps_fin (tb := fun W => tSeq (tAsg (tMt A.cShed "now" (spNow A) (tVar 0) tNil) (gName 3)) (tSp K (tMt A.cState "with_piles" (spWithPiles A) (tVar 3) (tCons (tFnX (spLifted A) (WE W) (tCons (tMt A.cState "load" (spLoad A) (tVar 3) tNil) (tCons (tFld K (tVar 3) "own_piles") (tCons (tTup (tCons (tVar 1) (tCons (tVar 2) tNil))) tNil)))) tNil))))
          (tf := tLg K "out" "lift") (tfs := tLg K "out" "lift") (Wout := fun cls d _ H => E cls d H) rfl rfl rfl (takes_of rfl rfl rfl rfl)
          (fun W pn xe tk _ => pss_cons (ps_set (i := 3) sc_lift.nd rfl (.inr rfl) (pe_mt0 G1 TC.cl_Shed TC.m_Sh_now hr1 (pv 0)))
            (pss_one (ps_expr (pe_bm PySem.F.plainAttrs_list PySem.F.slot_list_append PySem.F.type_list_append mt_append (pe_fld (pv 0) rfl) (pa_cons (pe_mt G3 TC.cl_State TC.m_St_with_piles hr (pv 3) (pa_cons (pe_fnX G2 hr3 T.g_lifted (fun σ => passAt tk σ) (pa_cons (pe_mt0 G4 TC.cl_State TC.m_St_load hr1 (pv 3)) (pa_cons (pe_fld (pv 3) rfl) (pa_cons (pe_tup (pa_cons (pv 1) (pa_cons (pv 2) pa_nil))) pa_nil)))) pa_nil)) pa_nil)))))
          (pss_one (ps_expr (pe_bm PySem.F.plainAttrs_list PySem.F.slot_list_append PySem.F.type_list_append mt_append (pe_fld (pv 0) rfl) (pa_cons (pe_tup (pa_cons pe_str (pa_cons pe_str pa_nil))) pa_nil))))
          (fun a pn => pss_one (ps_expr (pe_bm PySem.F.plainAttrs_list PySem.F.slot_list_append PySem.F.type_list_append mt_append (pe_fld (pv 0) rfl) (pa_cons (pe_tup (pa_cons pe_str (pa_cons pe_str pa_nil))) pa_nil))))) <|
      pss_cons (ps_set (i := 4) sc_lift.nd rfl (.inl rfl) (pe_fn G5 hr1 T.g_pileOn (pa_cons (pe_fld (pv 3) rfl) (pa_cons (pv 1) pa_nil)))) <|
      pss_one (ps_ret (pe_sum T.z_sum (pe_lc (own := [("item", 5)]) (g := gName 5) (tt := tYes) (te := tOp rAt (tFld K (tVar 3) "own_weights") (tVar 5)) rfl sc_lift.nd (pi_tup (pe_slice sl_tup' (pv 4) (po_some (pe_op op_sub (pe_len T.z_len (pv 4)) (pv 2))) po_none)) (blkOk_by (N := ["self", "side", "many", "here", "pile", "item"]) (sc := defScope s_Sh_lift) (by decide +kernel))
        (fun _ _ _ _ _ => pg_name (i := 5) sc_lift.nd rfl (Or.inl rfl)) (fun _ _ _ _ _ => pts_nil) (fun _ _ _ _ _ => pe_at (pe_fld (pv 3) rfl) (pv 5))))), ?_⟩
    have hs := h.short
    have hf := h.few
    have hl1 := h.ok.few
    have hl2 := h.ok.le
    refine lg_go TC rfl h.at_ (by omega) fun H1 k1 h1 => ?_
    refine now_go rfl h1 fun v hv => ?_
    refine sp_in TC rfl h1 ?_
    refine ⟨_, rfl, st_at hv ?_⟩
    refine ⟨_, rfl, st_at hv ⟨v, st, rfl, hv, fun H2 ld s2 d2 => ?_⟩⟩
    have hv2 := hv.same s2
    obtain ⟨b, dx, wa, pl, rfl, y1, hp, y3⟩ := id hv2
    refine ⟨_, rfl, b, _, dx, _, _, rfl, y1, TC.cl_State, TC.no_own_piles, stF_p _ _ _, _, rfl, _, rfl, fit' (by show 2 ≤ 1000000; decide), fun lf hlf => ?_⟩
    have s3 : Same H2 (upd H2 lf (.tup [.str (sd r), .int m])) := Same.new hlf
    have s13 := s2.trans s3
    refine ⟨_, pl, .ref lf, st.lim, st.ws, st.L, st.R, r, m, rfl, d2.same s3, hp.same s3, DA.tup upd_same (DAs.cons DA.str (DAs.cons DA.int DAs.nil)), h.ok.iL, h.ok.iR, by omega, by omega, h.ok.bd, fun e he H4 dd s4 nd hd => ?_, fun q hq H4 v4 s4 d4 => ?_⟩
    · have s14 := s13.trans s4
      refine lg_go TC rfl (h1.same s14) (by rw [List.length_append, List.length_singleton]; omega) fun H5 k5 h5 => ?_
      rw [log_two] at h5
      have ea : act st (.lift r m) = .error e := by simp only [act, he]
      exact h.no _ ea H5 dd ((k1.trans (Keep.of s14)).trans k5) (h1.free k1 (s13.free nd)) (k5 dd _ hd fun _ ys z => by cases z) h5
    · have s14 := s13.trans s4
      refine ⟨_, v4, st, q.1, q.2, rfl, hv.same s14, d4, fun H5 p s5 np hp5 => ?_⟩
      have s15 := s14.trans s5
      refine sp_out h1 s15 hp5 (by rw [List.length_append, List.length_singleton]; omega) fun H6 k6 h6 => ?_
      refine lg_go TC rfl h6 (by rw [List.length_append, List.length_singleton]; omega) fun H7 k7 h7 => ?_
      rw [log_two] at h7
      have kk := (k1.trans k6).trans k7
      obtain ⟨b', dx', wa', pl', eb, w1, w2, w3⟩ := (hv.kp k6).kp k7
      cases eb
      refine ⟨_, rfl, b, _, dx', _, _, rfl, w1, TC.cl_State, TC.no_own_piles, stF_p _ _ _, _, rfl, pl', st.L, st.R, r, rfl, w2, fun z hz => ?_⟩
      obtain ⟨eq, hm, _⟩ := liftP_ok hq
      have epile : (if r then st.R else st.L) = pileOf st r := rfl
      rw [epile] at hz hm
      refine ⟨_, rfl, _, rfl, _, _, rfl, .inl hz, _, rfl, _, _, rfl, rfl, _, rfl, z, _, rfl, hz, fun u H8 s8 hu => ?_⟩
      rw [List.length_map, cut_top (by omega)] at hu
      have hin : InW st.ws (topN (pileOf st r) m) := InW.top (InW.side h.ok.iL h.ok.iR r) m
      have hlen : (topN (pileOf st r) m).length ≤ 1000 := Nat.le_trans (top_len _ m) (len_side (by omega) (by omega) r)
      generalize htop : topN (pileOf st r) m = items at hu hin hlen
      refine ⟨u, rfl, ⟨_, SqT.of hu⟩, fun D hD => lc_tup (K := K) (a := u) (xs := items.map V.int) (fun i H' => Same H8 H' ∧ H' D = some (.lst (((items.take i).map (wt st.ws)).map V.int))) ⟨Same.new hD, upd_same⟩ (fun i H' _ q => SqT.of (q.1.at hu)) ?_ ?_⟩
      · rintro i x H' hx ⟨s9, hd⟩
        obtain ⟨z, hz, rfl⟩ := int_at hx
        have hm := hin z (List.mem_of_getElem? hz)
        have hl2 := (List.getElem?_eq_some_iff.mp hz).1
        refine ⟨rfl, _, rfl, b, _, dx', _, _, rfl, s9.at (s8.at w1), TC.cl_State, TC.no_own_weights, stF_w _ _ _, _, rfl, _, _, _, _, rfl, rfl, .inl (s9.at (s8.at w3)), at_ints hm.1 hm.2, _, hd, ?_, s9.put hD, ?_⟩
        · rw [List.length_map, List.length_map, List.length_take]
          exact fit (by omega)
        · rw [upd_same, take_more hz]
          simp
      · rintro H' ⟨s9, hd⟩
        rw [List.length_map, List.take_length] at hd
        have s79 := s8.trans s9
        have ea : act st (.lift r m) = .ok (.int (wsum st.ws items), { st with L := q.1, R := q.2 }) := by simp only [act, hq, htop]
        exact ⟨D, _, rfl, hd, h.yes _ _ ea H' _ (kk.trans (Keep.of s79)) (h7.same s79) DA.int⟩
theorem sc_lift_all : FnScope ["self", "row", "here"] ["self", "row"] (defScope s_Sh_lift_all) := ⟨rfl, rfl, rfl, by decide +kernel, rfl, by decide +kernel, by decide +kernel⟩
theorem ok_lift_all {f : Addr} {fd : FuncData} (F : Fun K "lift_all" "Shed.lift_all" s_Sh_lift_all f fd) (T : TxG K mg A) (TC : TxC K A) (G1 : Cal P w K mg base CX0 1 A.Sh_now ["self"] (spNow A)) (G2 : Cal P w K mg base (L2.CX P w) 4 A.liftAll ["load", "piles", "row"] (spLiftAll A))
    (G3 : Cal P w K mg base CX0 4 A.St_with_piles ["self", "piles"] (spWithPiles A)) (G4 : Cal P w K mg base CX0 1 A.St_load ["self"] (spLoad A)) : FnOk P w K mg base (L2.CX P w) 5 f fd ["self", "row"] (spLiftAllM A) := by
  refine F.okX sc_lift_all (fun vs H Q E h => ?_) (fun cdv A' outer s H vs Q E hr h => ?_)
  · obtain ⟨a, sl, ll, ta, xs, pre, st, log, t, rfl, _⟩ := h
    rfl
  · obtain ⟨a, sl, ll, ta, xs, pre, st, log, t, rfl, ht, hnt, hdx, h⟩ := h
    have hr1 := hr.mono (j := 1) (by decide)
    refine ⟨_, pss_cons (t := tLg K "in" "lift_all") (ps_expr (pe_bm PySem.F.plainAttrs_list PySem.F.slot_list_append PySem.F.type_list_append mt_append (pe_fld (pv 0) rfl) (pa_cons (pe_tup (pa_cons pe_str (pa_cons pe_str pa_nil))) pa_nil))) <|
      pss_one (ps_fin (tb := fun W => tSeq (tAsg (tMt A.cShed "now" (spNow A) (tVar 0) tNil) (gName 2)) (tSp K (tMt A.cState "with_piles" (spWithPiles A) (tVar 2) (tCons (tFnX (spLiftAll A) (WE W) (tCons (tMt A.cState "load" (spLoad A) (tVar 2) tNil) (tCons (tFld K (tVar 2) "own_piles") (tCons (tVar 1) tNil)))) tNil))))
          (tf := tLg K "out" "lift_all") (tfs := tLg K "out" "lift_all") (Wout := fun cls d _ H => E cls d H) rfl rfl rfl (takes_of rfl rfl rfl rfl)
          (fun W pn xe tk _ => pss_cons (ps_set (i := 2) sc_lift_all.nd rfl (.inl rfl) (pe_mt0 G1 TC.cl_Shed TC.m_Sh_now hr1 (pv 0)))
            (pss_one (ps_expr (pe_bm PySem.F.plainAttrs_list PySem.F.slot_list_append PySem.F.type_list_append mt_append (pe_fld (pv 0) rfl) (pa_cons (pe_mt G3 TC.cl_State TC.m_St_with_piles hr (pv 2) (pa_cons (pe_fnX G2 hr T.g_liftAllLifts (fun σ => passAt tk σ) (pa_cons (pe_mt0 G4 TC.cl_State TC.m_St_load hr1 (pv 2)) (pa_cons (pe_fld (pv 2) rfl) (pa_cons (pv 1) pa_nil)))) pa_nil)) pa_nil)))))
          (pss_one (ps_expr (pe_bm PySem.F.plainAttrs_list PySem.F.slot_list_append PySem.F.type_list_append mt_append (pe_fld (pv 0) rfl) (pa_cons (pe_tup (pa_cons pe_str (pa_cons pe_str pa_nil))) pa_nil))))
          (fun a pn => pss_one (ps_expr (pe_bm PySem.F.plainAttrs_list PySem.F.slot_list_append PySem.F.type_list_append mt_append (pe_fld (pv 0) rfl) (pa_cons (pe_tup (pa_cons pe_str (pa_cons pe_str pa_nil))) pa_nil))))), ?_⟩
    have hs := h.short
    have hf := h.few
    have hl1 := h.ok.few
    have hl2 := h.ok.le
    refine lg_go TC rfl h.at_ (by omega) fun H1 k1 h1 => ?_
    refine now_go rfl h1 fun v hv => ?_
    refine sp_in TC rfl h1 ?_
    refine ⟨_, rfl, st_at hv ?_⟩
    refine ⟨_, rfl, st_at hv ⟨v, st, rfl, hv, fun H2 ld s2 d2 => ?_⟩⟩
    have hv2 := hv.same s2
    obtain ⟨b, dx, wa, pl, rfl, y1, hp, y3⟩ := id hv2
    refine ⟨_, rfl, b, _, dx, _, _, rfl, y1, TC.cl_State, TC.no_own_piles, stF_p _ _ _, _, rfl, ?_⟩
    have ht1 := k1.lst ht hnt
    refine ⟨_, pl, ta, xs, st.lim, st.ws, st.L, st.R, t, rfl, d2, hp, s2.at ht1, (hdx.kp k1).same s2, h.ok.iL, h.ok.iR, by omega, h.ok.bd, fun e he H4 dd s4 nd hd => ?_, fun q hq H4 v4 s4 d4 => ?_⟩
    · have s14 := s2.trans s4
      refine lg_go TC rfl (h1.same s14) (by rw [List.length_append, List.length_singleton]; omega) fun H5 k5 h5 => ?_
      rw [log_two] at h5
      have ea : act st (.liftAll t) = .error e := by simp only [act, he]
      exact h.no _ ea H5 dd ((k1.trans (Keep.of s14)).trans k5) (h1.free k1 (s2.free nd)) (k5 dd _ hd fun _ ys z => by cases z) h5
    · have s14 := s2.trans s4
      refine ⟨_, v4, st, q.1, q.2, rfl, hv.same s14, d4, fun H5 p s5 np hp5 => ?_⟩
      have s15 := s14.trans s5
      refine sp_out h1 s15 hp5 (by rw [List.length_append, List.length_singleton]; omega) fun H6 k6 h6 => ?_
      refine lg_go TC rfl h6 (by rw [List.length_append, List.length_singleton]; omega) fun H7 k7 h7 => ?_
      rw [log_two] at h7
      have kk := (k1.trans k6).trans k7
      have ea : act st (.liftAll t) = .ok (.none, { st with L := q.1, R := q.2 }) := by simp only [act, hq]
      exact h.yes _ _ ea H7 _ kk h7 DA.non
theorem sc_set_limit : FnScope ["self", "limit", "here"] ["self", "limit"] (defScope s_Sh_set_limit) := ⟨rfl, rfl, rfl, by decide +kernel, rfl, by decide +kernel, by decide +kernel⟩
theorem ok_set_limit {f : Addr} {fd : FuncData} (F : Fun K "set_limit" "Shed.set_limit" s_Sh_set_limit f fd) (T : TxG K mg A) (TC : TxC K A) (G1 : Cal P w K mg base CX0 1 A.Sh_now ["self"] (spNow A)) (G2 : Cal P w K mg base CX0 2 A.St_init ["self", "limit", "piles", "weights"] (spStInit A)) : FnOk P w K mg base CX0 4 f fd ["self", "limit"] (spSetL A) := by
  refine F.ok sc_set_limit (fun vs H Q E h => ?_) (fun cdv A' outer s H vs Q E hr h => ?_)
  · obtain ⟨a, sl, ll, pre, st, log, l, rfl, _⟩ := h
    rfl
  · obtain ⟨a, sl, ll, pre, st, log, l, rfl, h⟩ := h
    have hr1 := hr.mono (j := 1) (by decide)
    refine ⟨_, pss_cons (t := tLg K "in" "set_limit") (ps_expr (pe_bm PySem.F.plainAttrs_list PySem.F.slot_list_append PySem.F.type_list_append mt_append (pe_fld (pv 0) rfl) (pa_cons (pe_tup (pa_cons pe_str (pa_cons pe_str pa_nil))) pa_nil))) <|
      pss_cons (ps_set (i := 2) sc_set_limit.nd rfl (.inl rfl) (pe_mt0 G1 TC.cl_Shed TC.m_Sh_now hr1 (pv 0))) <|
      pss_cons (t := tSp K (tMk A.cState (spStInit A) (tCons (tVar 1) (tCons (tFld K (tVar 2) "own_piles") (tCons (tFld K (tVar 2) "own_weights") tNil))))) (ps_expr (pe_bm PySem.F.plainAttrs_list PySem.F.slot_list_append PySem.F.type_list_append mt_append (pe_fld (pv 0) rfl) (pa_cons (pe_mk G2 TC.mk_State hr T.g_cState (pa_cons (pv 1) (pa_cons (pe_fld (pv 2) rfl) (pa_cons (pe_fld (pv 2) rfl) pa_nil)))) pa_nil))) <|
      pss_cons (t := tLg K "out" "set_limit") (ps_expr (pe_bm PySem.F.plainAttrs_list PySem.F.slot_list_append PySem.F.type_list_append mt_append (pe_fld (pv 0) rfl) (pa_cons (pe_tup (pa_cons pe_str (pa_cons pe_str pa_nil))) pa_nil))) <|
      pss_one (ps_ret (pe_fld (pv 2) rfl)), ?_⟩
    have hs := h.short
    have hf := h.few
    refine lg_go TC rfl h.at_ (by omega) fun H1 k1 h1 => ?_
    refine now_go rfl h1 fun v hv => ?_
    refine sp_in TC rfl h1 ?_
    obtain ⟨b, dx, wa, pl, rfl, y1, hp, y3⟩ := id hv
    refine ⟨_, rfl, _, rfl, b, _, dx, _, _, rfl, y1, TC.cl_State, TC.no_own_piles, stF_p _ _ _, _, rfl, b, _, dx, _, _, rfl, y1, TC.cl_State, TC.no_own_weights, stF_w _ _ _, ?_⟩
    refine st_mk (s := { st with lim := l }) hp y3 fun H2 p s2 np hp2 => ?_
    refine sp_out h1 s2 hp2 (by rw [List.length_append, List.length_singleton]; omega) fun H3 k3 h3 => ?_
    refine lg_go TC rfl h3 (by rw [List.length_append, List.length_singleton]; omega) fun H4 k4 h4 => ?_
    rw [log_two] at h4
    have ea : act st (.setL l) = .ok (.int st.lim, { st with lim := l }) := rfl
    refine ⟨_, rfl, b, _, dx, _, _, rfl, k4.ins (k3.ins y1), TC.cl_State, TC.no_own_limit, stF_l _ _ _, ?_⟩
    exact h.yes _ _ ea H4 _ ((k1.trans k3).trans k4) h4 DA.int
theorem sc_put : FnScope ["self", "weight", "side"] ["self", "weight", "side"] (defScope s_Sh_put) := ⟨rfl, rfl, rfl, by decide +kernel, rfl, by decide +kernel, by decide +kernel⟩
theorem ok_put {f : Addr} {fd : FuncData} (F : FunD K "put" "Shed.put" (defArgs s_Sh_put) (defBody s_Sh_put) (defScope s_Sh_put) [] [("side", .str "left")] f fd) (T : TxG K mg A) (TC : TxC K A) (G1 : Cal P w K mg base CX0 1 A.Sh_now ["self"] (spNow A)) (G2 : Cal P w K mg base (L2.CX P w) 3 A.St_top ["self", "side"] (spTop A))
    (G3 : Cal P w K mg base CX0 4 A.St_with_item ["self", "weight", "side"] (spWithItem A)) : FnOk P w K mg base CX0 5 f fd ["self", "weight", "side"] (spPut A) := by
  refine F.ok sc_put (fun vs H Q E h => ?_) (fun cdv A' outer s H vs Q E hr h => ?_)
  · obtain ⟨a, sl, ll, pre, st, log, wv, r, rfl, _⟩ := h
    rfl
  · obtain ⟨a, sl, ll, pre, st, log, wv, r, rfl, h⟩ := h
    have hr1 := hr.mono (j := 1) (by decide)
    have hr3 := hr.mono (j := 3) (by decide)
    refine ⟨_, pss_cons (t := tLg K "in" "put") (ps_expr (pe_bm PySem.F.plainAttrs_list PySem.F.slot_list_append PySem.F.type_list_append mt_append (pe_fld (pv 0) rfl) (pa_cons (pe_tup (pa_cons pe_str (pa_cons pe_str pa_nil))) pa_nil))) <|
      pss_cons (t := tSp K (tMt A.cState "with_item" (spWithItem A) (tMt A.cShed "now" (spNow A) (tVar 0) tNil) (tCons (tVar 1) (tCons (tVar 2) tNil)))) (ps_expr (pe_bm PySem.F.plainAttrs_list PySem.F.slot_list_append PySem.F.type_list_append mt_append (pe_fld (pv 0) rfl) (pa_cons (pe_mt G3 TC.cl_State TC.m_St_with_item hr (pe_mt0 G1 TC.cl_Shed TC.m_Sh_now hr1 (pv 0)) (pa_cons (pv 1) (pa_cons (pv 2) pa_nil))) pa_nil))) <|
      pss_cons (t := tLg K "out" "put") (ps_expr (pe_bm PySem.F.plainAttrs_list PySem.F.slot_list_append PySem.F.type_list_append mt_append (pe_fld (pv 0) rfl) (pa_cons (pe_tup (pa_cons pe_str (pa_cons pe_str pa_nil))) pa_nil))) <|
      pss_one (ps_ret (pe_mtX (E := fun _ => E0) G2 TC.cl_State TC.m_St_top hr3 passN (pe_mt0 G1 TC.cl_Shed TC.m_Sh_now hr1 (pv 0)) (pa_cons (pv 2) pa_nil))), ?_⟩
    have hs := h.short
    have hf := h.few
    have hl1 := h.ok.few
    have hl2 := h.ok.le
    refine lg_go TC rfl h.at_ (by omega) fun H1 k1 h1 => ?_
    refine sp_in TC rfl h1 ?_
    refine now_go rfl h1 fun v hv => st_at hv ?_
    refine ⟨_, rfl, _, rfl, v, st, wv, r, rfl, hv, by omega, by omega, fun H2 p s2 np hp2 => ?_⟩
    refine sp_out h1 s2 hp2 (by rw [List.length_append, List.length_singleton]; omega) fun H3 k3 h3 => ?_
    refine lg_go TC rfl h3 (by rw [List.length_append, List.length_singleton]; omega) fun H4 k4 h4 => ?_
    rw [log_two] at h4
    refine now_go rfl h4 fun v2 hv2 => st_at hv2 ?_
    have elast : (pileOf (putS st wv r) r).getLast? = some (st.ws.length : Int) := by
      cases r
      · exact List.getLast?_concat
      · exact List.getLast?_concat
    refine ⟨_, rfl, v2, _, r, rfl, hv2, fun z => ?_, fun i hi => ?_⟩
    · rw [elast] at z
      cases z
    · rw [elast] at hi
      cases hi
      have ea : act st (.put wv r) = .ok (.int st.ws.length, putS st wv r) := rfl
      exact h.yes _ _ ea H4 _ ((k1.trans k3).trans k4) h4 DA.int
end
end Tw
set_option Elab.async false
set_option linter.all false
set_option maxRecDepth 100000
set_option maxHeartbeats 4000000
/-! __init__, undo, as_of, twin -/
namespace Tw
open PySem PySem.Spec PyProof.Rows L2
/-! ### a new shed -/
def spShInit (A : Ad) : Sp := fun vs H Q _ => ∃ (p dx : Addr) (lim : Int), vs = [.ref p, .int lim] ∧ H p = some (.ins A.cShed dx []) ∧
  ∀ H' sl ll, (∀ b o, H b = some o → b ≠ p → H' b = some o) → H sl = none → H ll = none → ShedAt A H' p sl ll [⟨lim, [], [], []⟩] [] → Q .non H'
theorem sh_mk {A : Ad} {H : Hp} {lim : Int} {Pp : Addr → Hp → Prop} {E : XK} (k : ∀ H' p sl ll, Same H H' → H p = none → H sl = none → H ll = none → ShedAt A H' p sl ll [⟨lim, [], [], []⟩] [] → Pp p H') :
    ∀ x dx, H x = none → H dx = none → dx ≠ x → spShInit A [.ref x, .int lim] (upd (upd H dx (.own x)) x (.ins A.cShed dx [])) (fun v H2 => v = .non ∧ Pp x H2) E := fun x dx nx nd ne => by
  have s1 : Same H (upd (upd H dx (.own x)) x (.ins A.cShed dx [])) := fun b o e => by
    rw [upd_ne (ne_of_none e nx), upd_ne (ne_of_none e nd)]
    exact e
  exact ⟨x, dx, lim, rfl, upd_same, fun H' sl ll kp n1 n2 h => ⟨rfl, k H' x sl ll (Same.made nx nd kp) nx (s1.free n1) (s1.free n2) h⟩⟩
def spUndo (A : Ad) : Sp := fun vs H Q _ => ∃ (a sl ll : Addr) (sts : List Sta) (log : List PyData), vs = [.ref a] ∧ ShedAt A H a sl ll sts log ∧ log.length ≤ 10000 ∧
  ∀ H', Keep (Mx sl ll) H H' → ShedAt A H' a sl ll (if 1 < sts.length then sts.dropLast else sts) (log ++ logD "undo") → Q (.bl (decide (1 < sts.length))) H'
def spAsOf (A : Ad) : Sp := fun vs H Q _ => ∃ (a sl ll : Addr) (sts : List Sta) (log : List PyData) (n : Nat), vs = [.ref a, .int n] ∧ ShedAt A H a sl ll sts log ∧ n < sts.length ∧
  ∀ H' p sl' ll', Same H H' → H p = none → H sl' = none → H ll' = none → ShedAt A H' p sl' ll' (sts.take (n + 1)) [] → Q (.ref p) H'
def spTwin (A : Ad) : Sp := fun vs H Q _ => ∃ (a sl ll : Addr) (sts : List Sta) (log : List PyData), vs = [.ref a] ∧ ShedAt A H a sl ll sts log ∧ sts ≠ [] ∧
  ∀ H' p sl' ll', Same H H' → H p = none → H sl' = none → H ll' = none → ShedAt A H' p sl' ll' sts [] → Q (.ref p) H'
section
variable {P : Program} {w : World} {K : PySem.W.Frag} {mg : Str → Option Value} {base : Heap} {A : Ad}
theorem sc_ShInit : FnScope ["self", "limit"] ["self", "limit"] (defScope s_Sh_init) := ⟨rfl, rfl, rfl, by decide +kernel, rfl, by decide +kernel, by decide +kernel⟩
theorem ok_ShInit {f : Addr} {fd : FuncData} (F : Fun K "__init__" "Shed.__init__" s_Sh_init f fd) (T : TxG K mg A) (TC : TxC K A) (G2 : Cal P w K mg base CX0 2 A.St_init ["self", "limit", "piles", "weights"] (spStInit A)) : FnOk P w K mg base CX0 4 f fd ["self", "limit"] (spShInit A) := by
  refine F.ok sc_ShInit (fun vs H Q E h => ?_) (fun cdv A' outer s H vs Q E hr h => ?_)
  · obtain ⟨p, dx, lim, rfl, _⟩ := h
    rfl
  · obtain ⟨p, dx, lim, rfl, hp, k⟩ := h
    refine ⟨_, pss_cons (ps_fld (pv 0) (pe_lst (pa_cons (pe_mk G2 TC.mk_State hr T.g_cState (pa_cons (pv 1) (pa_cons (pe_tup (pa_cons (pe_tup pa_nil) (pa_cons (pe_tup pa_nil) pa_nil))) (pa_cons (pe_tup pa_nil) pa_nil)))) pa_nil)) rfl) <|
      pss_one (ps_fld (pv 0) (pe_lst pa_nil) rfl), ?_⟩
    refine ⟨_, rfl, fit' (by show 0 ≤ 1000000; decide), fun e1 n1 => ⟨fit' (by show 0 ≤ 1000000; decide), fun e2 n2 => ⟨fit' (by show 2 ≤ 1000000; decide), fun e3 n3 => ⟨fit' (by show 0 ≤ 1000000; decide), fun e4 n4 => ?_⟩⟩⟩⟩
    have s1 : Same H (upd H e1 (.tup [])) := Same.new n1
    generalize hH1 : upd H e1 (.tup []) = H1 at *
    have g1 : H1 e1 = some (.tup []) := by rw [← hH1, upd_same]
    have s2 : Same H1 (upd H1 e2 (.tup [])) := Same.new n2
    generalize hH2 : upd H1 e2 (.tup []) = H2 at *
    have g2 : H2 e2 = some (.tup []) := by rw [← hH2, upd_same]
    have s3 : Same H2 (upd H2 e3 (.tup [.ref e1, .ref e2])) := Same.new n3
    generalize hH3 : upd H2 e3 (.tup [.ref e1, .ref e2]) = H3 at *
    have g3 : H3 e3 = some (.tup [.ref e1, .ref e2]) := by rw [← hH3, upd_same]
    have s4 : Same H3 (upd H3 e4 (.tup [])) := Same.new n4
    generalize hH4 : upd H3 e4 (.tup []) = H4 at *
    have g4 : H4 e4 = some (.tup []) := by rw [← hH4, upd_same]
    refine st_mk (s := ⟨lim, [], [], []⟩) (pD_M (s4.at g3) (s4.at (s3.at (s2.at g1))) (s4.at (s3.at g2))) g4 fun H5 q s5 nq hq => ?_
    refine ⟨fit' (by show 1 ≤ 1000000; decide), fun sl nsl => ?_⟩
    have s15 := (((s1.trans s2).trans s3).trans s4).trans s5
    have s6 : Same H5 (upd H5 sl (.lst [.ref q])) := Same.new nsl
    have g6 : upd H5 sl (.lst [.ref q]) sl = some (.lst [.ref q]) := upd_same
    generalize hH6 : upd H5 sl (.lst [.ref q]) = H6 at *
    have s16 := s15.trans s6
    refine ⟨_, rfl, p, _, dx, _, rfl, s16.at hp, TC.cl_Shed, TC.no_own_states, (by show 0 < 1000; decide), ?_⟩
    have nsp : sl ≠ p := fun z => by
      have z2 := s15.free nsl
      rw [z, hp] at z2
      cases z2
    have nqp : q ≠ p := fun z => by
      have z2 := ((((s1.trans s2).trans s3).trans s4).free nq)
      rw [z, hp] at z2
      cases z2
    generalize hH7 : upd H6 p (.ins A.cShed dx (putF "own_states" (.ref sl) [])) = H7
    have p7 : H7 p = some (.ins A.cShed dx (putF "own_states" (.ref sl) [])) := by rw [← hH7, upd_same]
    have k7 : ∀ {b : Addr} {o : HO}, H6 b = some o → b ≠ p → H7 b = some o := fun e n => by rw [← hH7, upd_ne n]; exact e
    refine ⟨fit' (by show 0 ≤ 1000000; decide), fun ll nll => ?_⟩
    have k8 : ∀ {b : Addr} {o : HO}, H7 b = some o → upd H7 ll (.lst []) b = some o := fun e => by rw [upd_ne (ne_of_none e nll)]; exact e
    refine ⟨_, rfl, p, _, dx, putF "own_states" (.ref sl) [], rfl, k8 p7, TC.cl_Shed, TC.no_own_log, (by show 1 < 1000; decide), ?_⟩
    rw [shF_new]
    have nlp : ll ≠ p := fun z => by rw [z, p7] at nll; cases nll
    have k9 : ∀ {b : Addr} {o : HO}, H6 b = some o → b ≠ p → upd (upd H7 ll (.lst [])) p (.ins A.cShed dx (shF sl ll)) b = some o := fun e n => by rw [upd_ne n]; exact k8 (k7 e n)
    refine k _ sl ll (fun b o e n => k9 (s16.at e) n) (s15.free nsl) (s16.free (by
      rw [← hH7, upd_ne nlp] at nll
      exact nll)) ⟨ne_of_none (k7 g6 nsp) nll, dx, [.ref q], [], upd_same, k9 g6 nsp, .cons ?_ .nil, (by rw [upd_ne nlp, upd_same]), DAs.nil⟩
    obtain ⟨q', dq, wa, pl, eq, w1, w2, w3⟩ := hq
    cases eq
    have np6 : ∀ {b : Addr} {o : List V}, H5 b = some (.tup o) → b ≠ p := fun e => ne_of e (s15.at hp) (by intro z; cases z)
    obtain ⟨a, l, r, rfl, v1, v2, v3⟩ := pD_I w2
    exact ⟨q, dq, wa, _, rfl, k9 (s6.at w1) nqp, pD_M (k9 (s6.at v1) (np6 v1)) (k9 (s6.at v2) (np6 v2)) (k9 (s6.at v3) (np6 v3)), k9 (s6.at w3) (np6 w3)⟩
theorem sc_undo : FnScope ["self", "found"] ["self"] (defScope s_Sh_undo) := ⟨rfl, rfl, rfl, by decide +kernel, rfl, by decide +kernel, by decide +kernel⟩
theorem ok_undo {f : Addr} {fd : FuncData} (F : Fun K "undo" "Shed.undo" s_Sh_undo f fd) (T : TxG K mg A) (TC : TxC K A) (G : Cal P w K mg base CX0 1 A.Sh_operations ["self"] (spOps A)) : FnOk P w K mg base CX0 2 f fd ["self"] (spUndo A) := by
  refine F.ok sc_undo (fun vs H Q E h => ?_) (fun cdv A' outer s H vs Q E hr h => ?_)
  · obtain ⟨a, sl, ll, sts, log, rfl, _⟩ := h
    rfl
  · obtain ⟨a, sl, ll, sts, log, rfl, h, hs, k⟩ := h
    refine ⟨_, pss_cons (t := tLg K "in" "undo") (ps_expr (pe_bm PySem.F.plainAttrs_list PySem.F.slot_list_append PySem.F.type_list_append mt_append (pe_fld (pv 0) rfl) (pa_cons (pe_tup (pa_cons pe_str (pa_cons pe_str pa_nil))) pa_nil))) <|
      pss_cons (ps_set (i := 1) sc_undo.nd rfl (.inl rfl) (pe_cmpR op_gt (pe_mt0 G TC.cl_Shed TC.m_Sh_operations hr (pv 0)) pe_int (nomark _))) <|
      pss_cons (ps_if (pt_val (pv 1)) (pss_one (ps_expr (pe_bm0 PySem.F.plainAttrs_list PySem.F.slot_list_pop PySem.F.type_list_pop mt_pop (pe_fld (pv 0) rfl)))) pss_nil) <|
      pss_cons (t := tLg K "out" "undo") (ps_expr (pe_bm PySem.F.plainAttrs_list PySem.F.slot_list_append PySem.F.type_list_append mt_append (pe_fld (pv 0) rfl) (pa_cons (pe_tup (pa_cons pe_str (pa_cons pe_str pa_nil))) pa_nil))) <|
      pss_one (ps_ret (pv 1)), ?_⟩
    refine lg_go TC rfl h (by omega) fun H1 k1 h1 => ?_
    refine ⟨_, rfl, sh_at h1 ⟨a, sl, ll, sts, _, rfl, h1, ?_⟩⟩
    refine ⟨_, _, rfl, rfl, ?_⟩
    have rest : ∀ (H2 : Hp) (sts' : List Sta), Keep (Mx sl ll) H1 H2 → ShedAt A H2 a sl ll sts' (log ++ [lgD "in" "undo"]) → (∀ H', Keep (Mx sl ll) H H' → ShedAt A H' a sl ll sts' (log ++ logD "undo") → Q (.bl (decide (1 < sts.length))) H') →
        tSeq (tLg K "out" "undo") (tRet (tVar 1)) { nx := fun _ H' => Q .non H', rt := Q } [some (.ref a), some (.bl (decide ((sts.length : Int) - 1 > 0)))] H2 := fun H2 sts' k2 h2 kq => by
      refine lg_go TC rfl h2 (by rw [List.length_append, List.length_singleton]; omega) fun H3 k3 h3 => ?_
      rw [log_two] at h3
      have e : decide ((sts.length : Int) - 1 > 0) = decide (1 < sts.length) := decide_eq_decide.mpr (by omega)
      refine ⟨_, rfl, ?_⟩
      rw [e]
      exact kq H3 ((k1.trans k2).trans k3) h3
    refine ⟨_, rfl, _, rfl, ?_⟩
    by_cases c : 1 < sts.length
    · rw [if_pos c] at k
      refine if_true_of (decide_eq_true (by omega)) ?_
      obtain ⟨xs, ls, e1, l1, e2, l2⟩ := h1.lists
      have hlast : xs[xs.length - 1]? = some (xs[xs.length - 1]'(by omega)) := List.getElem?_eq_getElem (by omega)
      refine ⟨_, rfl, ?_⟩
      obtain ⟨_, dx, _, _, g1, _⟩ := id h1
      refine ⟨a, _, dx, _, _, rfl, g1, TC.cl_Shed, TC.no_own_states, shF_s _ _, SqL.ty e1, sl, xs, _, rfl, rfl, e1, hlast, ?_⟩
      exact rest _ _ (Keep.set e1 (.inl rfl)) (h1.pop_st e1) k
    · rw [if_neg c] at k
      refine if_false_of (decide_eq_false (by omega)) ?_
      exact rest H1 sts Keep.refl h1 k
end
end Tw
set_option Elab.async false
set_option linter.all false
set_option maxRecDepth 100000
set_option maxHeartbeats 4000000
/-! as_of, twin, __eq__, __repr__, state -/
namespace Tw
open PySem PySem.Spec PyProof.Rows L2
/-! ### data that == takes -/
def Pl (n : Nat) (d : PyData) : Prop := d.canLay0 = true ∧ d.depth ≤ n
theorem Pl.int {n : Nat} {i : Int} : Pl n (.int i) := by
  refine ⟨rfl, ?_⟩
  simp only [PyData.depth]
  omega
theorem Pl.non {n : Nat} : Pl n .none := by
  refine ⟨rfl, ?_⟩
  simp only [PyData.depth]
  omega
theorem pl_all {n : Nat} : ∀ {ds : List PyData}, (∀ d ∈ ds, Pl n d) → PyData.canLayAll0 ds = true ∧ PyData.depthAll ds ≤ n
  | [], _ => by
    refine ⟨rfl, ?_⟩
    simp only [PyData.depthAll]
    omega
  | d :: ds, h => by
    have h1 := h d List.mem_cons_self
    have h2 := pl_all (ds := ds) fun x hx => h x (List.mem_cons_of_mem _ hx)
    have a1 := h1.2
    have a2 := h2.2
    simp only [PyData.canLayAll0, PyData.depthAll, h1.1, h2.1, Bool.and_self, true_and]
    omega
theorem Pl.tup {n : Nat} {ds : List PyData} (h : ∀ d ∈ ds, Pl n d) : Pl (n + 1) (.tuple ds) := by
  have q := pl_all h
  have q2 := q.2
  refine ⟨by simp only [PyData.canLay0, q.1], ?_⟩
  simp only [PyData.depth]
  omega
theorem Pl.lst {n : Nat} {ds : List PyData} (h : ∀ d ∈ ds, Pl n d) : Pl (n + 1) (.list ds) := by
  have q := pl_all h
  have q2 := q.2
  refine ⟨by simp only [PyData.canLay0, q.1], ?_⟩
  simp only [PyData.depth]
  omega
theorem Pl.shaped {n : Nat} {d : PyData} (h : Pl n d) (hn : n ≤ 64) : SeqAt.shaped d = true := by
  unfold SeqAt.shaped
  rw [h.1, decide_eq_true (Nat.le_trans h.2 hn)]
  rfl
theorem Pl.mono {n m : Nat} {d : PyData} (h : Pl n d) (l : n ≤ m) : Pl m d := ⟨h.1, Nat.le_trans h.2 l⟩
theorem Pl.eqv {n : Nat} {d : PyData} (h : Pl n d) : PyData.eqv d d = true := PySem.SeqAt.eqv_refl d h.1
theorem pl_tI {n : Nat} {ns : List Int} : Pl (n + 1) (tI ns) := Pl.tup fun d hd => by
  obtain ⟨i, _, e⟩ := List.mem_map.mp hd
  exact e ▸ Pl.int
theorem pl_pD {n : Nat} {L R : List Int} : Pl (n + 2) (pD L R) := Pl.tup fun d hd => by
  simp only [List.mem_cons, List.not_mem_nil, or_false] at hd
  rcases hd with e | e
  · exact e ▸ pl_tI
  · exact e ▸ pl_tI
theorem pl_weights {n : Nat} {s : Sta} : Pl (n + 2) (.list (weightsL s)) := Pl.lst fun d hd => by
  obtain ⟨i, _, e⟩ := List.mem_map.mp hd
  rw [← e]
  refine Pl.tup fun d hd => ?_
  simp only [List.mem_cons, List.not_mem_nil, or_false] at hd
  rcases hd with e | e
  · exact e ▸ Pl.int
  · exact e ▸ Pl.int
/-- what == of two sheds compares -/
def eqDat (s : Sta) : PyData := .tuple [.int s.lim, pD s.L s.R, .list (weightsL s)]
theorem pl_eqDat {s : Sta} : Pl 3 (eqDat s) := Pl.tup fun d hd => by
  simp only [List.mem_cons, List.not_mem_nil, or_false] at hd
  rcases hd with e | e | e
  · exact e ▸ Pl.int
  · exact e ▸ pl_pD
  · exact e ▸ pl_weights
def spEq (A : Ad) : Sp := fun vs H Q _ => ∃ (a b sl ll sl' ll' : Addr) (pre pre' : List Sta) (s : Sta) (log log' : List PyData), vs = [.ref a, .ref b] ∧ ShedAt A H a sl ll (pre ++ [s]) log ∧ ShedAt A H b sl' ll' (pre' ++ [s]) log' ∧ SOk s 900 ∧ ∀ H', Same H H' → Q (.bl true) H'
/-- repr's text -/
def reprT (s : Sta) : Str := ((((Str.empty ++ ("Shed(limit " : Str)) ++ Str.ofString (toString s.lim)) ++ (", " : Str)) ++ Str.ofString (toString ((presentS s).length : Int))) ++ (" items)" : Str)
def spRepr (A : Ad) : Sp := fun vs H Q _ => ∃ (a sl ll : Addr) (pre : List Sta) (s : Sta) (log : List PyData), vs = [.ref a] ∧ ShedAt A H a sl ll (pre ++ [s]) log ∧ SOk s 900 ∧ ∀ H', Same H H' → Q (.str (reprT s)) H'
theorem last_split {sts : List Sta} (h : sts ≠ []) : ∃ pre s, sts = pre ++ [s] := ⟨sts.dropLast, sts.getLast h, (List.dropLast_concat_getLast h).symm⟩
section
variable {P : Program} {w : World} {K : PySem.W.Frag} {mg : Str → Option Value} {base : Heap} {A : Ad}
theorem sc_as_of : FnScope ["self", "many", "found"] ["self", "many"] (defScope s_Sh_as_of) := ⟨rfl, rfl, rfl, by decide +kernel, rfl, by decide +kernel, by decide +kernel⟩
theorem ok_as_of {f : Addr} {fd : FuncData} (F : Fun K "as_of" "Shed.as_of" s_Sh_as_of f fd) (T : TxG K mg A) (TC : TxC K A) (G1 : Cal P w K mg base CX0 1 A.Sh_operations ["self"] (spOps A)) (G2 : Cal P w K mg base CX0 2 A.Sh_limit ["self"] (spLimit A))
    (G3 : Cal P w K mg base CX0 4 A.Sh_init ["self", "limit"] (spShInit A)) : FnOk P w K mg base CX0 6 f fd ["self", "many"] (spAsOf A) := by
  refine F.ok sc_as_of (fun vs H Q E h => ?_) (fun cdv A' outer s H vs Q E hr h => ?_)
  · obtain ⟨a, sl, ll, sts, log, n, rfl, _⟩ := h
    rfl
  · obtain ⟨a, sl, ll, sts, log, n, rfl, h, hn, k⟩ := h
    refine ⟨_, pss_cons (ps_if (pt_not (pt_chain op_le op_le pe_int (pv 1) (pe_mt0 G1 TC.cl_Shed TC.m_Sh_operations (hr.mono (by decide)) (pv 0)))) (pss_one ps_never) pss_nil) <|
      pss_cons (ps_set (i := 2) sc_as_of.nd rfl (.inl rfl) (pe_mk G3 TC.mk_Shed hr T.g_cShed (pa_cons (pe_mt0 G2 TC.cl_Shed TC.m_Sh_limit (hr.mono (by decide)) (pv 0)) pa_nil))) <|
      pss_cons (ps_fld (pv 2) (pe_slice sl_list (pe_fld (pv 0) rfl) po_none (po_some (pe_op op_add (pv 1) pe_int))) rfl) <|
      pss_one (ps_ret (pv 2)), ?_⟩
    refine ⟨_, rfl, _, _, rfl, rfl, _, rfl, if_true_of (decide_eq_true (by omega)) ⟨_, rfl, sh_at h ⟨a, sl, ll, sts, log, rfl, h, ?_⟩⟩⟩
    refine ⟨_, _, rfl, rfl, _, rfl, ?_⟩
    rw [decide_eq_true (show (n : Int) ≤ (sts.length : Int) - 1 by omega)]
    refine if_false_of rfl ?_
    obtain ⟨pre, st, rfl⟩ := last_split (sts := sts) (fun z => by rw [z] at hn; exact absurd hn (Nat.not_lt_zero _))
    refine ⟨_, rfl, sh_at h ⟨a, sl, ll, pre, st, log, rfl, h, ?_⟩⟩
    refine sh_mk fun H1 p sl' ll' s1 np nsl nll hp => ?_
    obtain ⟨ne, dx, xs, ls, h1, h2, h3, h4, h5⟩ := h
    refine ⟨_, rfl, a, _, dx, _, _, rfl, s1.at h1, TC.cl_Shed, TC.no_own_states, shF_s _ _, _, rfl, _, _, rfl, rfl, _, rfl, sl, xs, rfl, SqL.of (s1.at h2), fun m hm => ?_⟩
    have s2 : Same H1 (upd H1 m (.lst (cutV xs none (some ((n : Int) + 1))))) := Same.new hm
    have ec : cutV xs none (some ((n : Int) + 1)) = xs.take (n + 1) := cut_to xs (n + 1)
    rw [ec] at s2 ⊢
    have g2 : upd H1 m (.lst (xs.take (n + 1))) m = some (.lst (xs.take (n + 1))) := upd_same
    generalize hH2 : upd H1 m (.lst (xs.take (n + 1))) = H2 at *
    obtain ⟨ne', dx', xs', ls', p1, p2, p3, p4, p5⟩ := hp
    refine ⟨_, rfl, p, _, dx', _, rfl, s2.at p1, TC.cl_Shed, TC.no_own_states, (by show 2 < 1000; decide), ?_⟩
    rw [shF_put]
    have s02 := s1.trans s2
    have s03 : Same H (upd H2 p (.ins A.cShed dx' (shF m ll'))) := s02.put np
    have nmp : m ≠ p := fun z => by rw [z, p1] at hm; cases hm
    have nmll : m ≠ ll' := fun z => by rw [z, p4] at hm; cases hm
    have nllp : ll' ≠ p := ne_of p4 p1 (by intro z; cases z)
    refine ⟨_, rfl, k _ p m ll' s03 np (s1.free hm) nll ⟨nmll, dx', xs.take (n + 1), ls', upd_same, (upd_ne nmp).trans g2, pr_map (pr_take (n + 1) h3) fun _ _ z => z.same s03, (upd_ne nllp).trans (s2.at p4), ?_⟩⟩
    rw [p5.inv0]
    exact DAs.nil
theorem sc_twin : FnScope ["self"] ["self"] (defScope s_Sh_twin) := ⟨rfl, rfl, rfl, by decide +kernel, rfl, by decide +kernel, by decide +kernel⟩
theorem ok_twin {f : Addr} {fd : FuncData} (F : Fun K "twin" "Shed.twin" s_Sh_twin f fd) (TC : TxC K A) (G1 : Cal P w K mg base CX0 1 A.Sh_operations ["self"] (spOps A)) (G2 : Cal P w K mg base CX0 6 A.Sh_as_of ["self", "many"] (spAsOf A)) : FnOk P w K mg base CX0 7 f fd ["self"] (spTwin A) := by
  refine F.ok sc_twin (fun vs H Q E h => ?_) (fun cdv A' outer s H vs Q E hr h => ?_)
  · obtain ⟨a, sl, ll, sts, log, rfl, _⟩ := h
    rfl
  · obtain ⟨a, sl, ll, sts, log, rfl, h, hn, k⟩ := h
    have hl : 0 < sts.length := List.length_pos_iff.mpr hn
    refine ⟨_, pss_one (ps_ret (pe_mt G2 TC.cl_Shed TC.m_Sh_as_of hr (pv 0) (pa_cons (pe_mt0 G1 TC.cl_Shed TC.m_Sh_operations (hr.mono (by decide)) (pv 0)) pa_nil))), ?_⟩
    refine mt_sh rfl h ⟨_, rfl, sh_at h ⟨a, sl, ll, sts, log, rfl, h, ?_⟩⟩
    refine ⟨a, sl, ll, sts, log, sts.length - 1, ?_, h, by omega, fun H' p sl' ll' s1 n1 n2 n3 hp => ?_⟩
    · rw [show ((sts.length - 1 : Nat) : Int) = (sts.length : Int) - 1 by omega]
    · rw [List.take_of_length_le (by omega)] at hp
      exact k H' p sl' ll' s1 n1 n2 n3 hp
theorem kit_self {C : Addr} : PySem.W.kitOne K (.ref C) (.ref C) = some true := if_pos (by simp)
theorem sc_sheq : FnScope ["self", "other", "mine", "its"] ["self", "other"] (defScope s_Sh_eq) := ⟨rfl, rfl, rfl, by decide +kernel, rfl, by decide +kernel, by decide +kernel⟩
theorem ok_sheq {f : Addr} {fd : FuncData} (F : Fun K "__eq__" "Shed.__eq__" s_Sh_eq f fd) (T : TxG K mg A) (TC : TxC K A) (G1 : Cal P w K mg base CX0 2 A.Sh_limit ["self"] (spLimit A)) (G2 : Cal P w K mg base CX0 2 A.Sh_piles ["self"] (spPiles A)) (G3 : Cal P w K mg base CX0 2 A.Sh_weights ["self"] (spWeights A)) :
    FnOk P w K mg base CX0 3 f fd ["self", "other"] (spEq A) := by
  refine F.ok sc_sheq (fun vs H Q E h => ?_) (fun cdv A' outer s H vs Q E hr h => ?_)
  · obtain ⟨a, b, sl, ll, sl', ll', pre, pre', st, log, log', rfl, _⟩ := h
    rfl
  · obtain ⟨a, b, sl, ll, sl', ll', pre, pre', st, log, log', rfl, ha, hb, ok, k⟩ := h
    refine ⟨_, pss_cons (ps_if (pt_not (pt_val (pe_callB call_isi (by rfl) T.z_isinstance PyProof.Rows.boot_isinstance (pa_cons (pv 1) (pa_cons (pe_glob (v := .ref A.cShed) rfl T.g_cShed rfl) pa_nil))))) (pss_one ps_never) pss_nil) <|
      pss_cons (ps_par (i := 2) (j := 3) rfl sc_sheq.nd rfl rfl (by decide) rfl rfl (pa_cons (pe_tup (pa_cons (pe_mt0 G1 TC.cl_Shed TC.m_Sh_limit hr (pv 0)) (pa_cons (pe_mt0 G2 TC.cl_Shed TC.m_Sh_piles hr (pv 0)) (pa_cons (pe_mt0 G3 TC.cl_Shed TC.m_Sh_weights hr (pv 0)) pa_nil))))
        (pa_cons (pe_tup (pa_cons (pe_mt0 G1 TC.cl_Shed TC.m_Sh_limit hr (pv 1)) (pa_cons (pe_mt0 G2 TC.cl_Shed TC.m_Sh_piles hr (pv 1)) (pa_cons (pe_mt0 G3 TC.cl_Shed TC.m_Sh_weights hr (pv 1)) pa_nil)))) pa_nil)) (by rfl)) <|
      pss_one (ps_ret (pe_cmpR (op_eqD hr.units) (pv 2) (pv 3) (nomark _))), ?_⟩
    obtain ⟨ne, dx, xs, ls, g1, _⟩ := id hb
    refine ⟨_, rfl, _, _, .ref A.cShed, .ref A.cShed, true, rfl, .own _, .base (.ins g1 TC.cl_Shed TC.a_Shed TC.h_cls TC.t_cls TC.o_Shed), kit_self, _, rfl, ?_⟩
    refine if_false_of rfl ?_
    refine ⟨_, rfl, sh_at ha ⟨a, sl, ll, pre, st, log, rfl, ha, ?_⟩⟩
    refine ⟨_, rfl, sh_at ha ⟨a, sl, ll, pre, st, log, rfl, ha, fun v hv => ?_⟩⟩
    refine ⟨_, rfl, sh_at ha ⟨a, sl, ll, pre, st, log, rfl, ha, ok, fun H1 p xs s1 np hp hx => ⟨fit' (by show 3 ≤ 1000000; decide), fun t ht => ?_⟩⟩⟩
    have s1b : Same H1 (upd H1 t (.tup [.int st.lim, v, .ref p])) := Same.new ht
    have d1 : DA Bt (upd H1 t (.tup [.int st.lim, v, .ref p])) (eqDat st) (.ref t) := DA.tup upd_same (DAs.cons DA.int (DAs.cons ((hv.same s1).same s1b).bot (DAs.cons (DA.lst (s1b.at hp) (fun z => z) ((hx.same s1b).any)) DAs.nil)))
    have s1' := s1.trans s1b
    generalize upd H1 t (.tup [.int st.lim, v, .ref p]) = H2 at s1' d1
    have hb2 := hb.same s1'
    refine ⟨_, rfl, sh_at hb2 ⟨b, sl', ll', pre', st, log', rfl, hb2, ?_⟩⟩
    refine ⟨_, rfl, sh_at hb2 ⟨b, sl', ll', pre', st, log', rfl, hb2, fun v hv => ?_⟩⟩
    refine ⟨_, rfl, sh_at hb2 ⟨b, sl', ll', pre', st, log', rfl, hb2, ok, fun H3 p xs s3 np hp hx => ⟨fit' (by show 3 ≤ 1000000; decide), fun u hu => ⟨_, _, rfl, ?_⟩⟩⟩⟩
    have s3b : Same H3 (upd H3 u (.tup [.int st.lim, v, .ref p])) := Same.new hu
    have d2 : DA Bt (upd H3 u (.tup [.int st.lim, v, .ref p])) (eqDat st) (.ref u) := DA.tup upd_same (DAs.cons DA.int (DAs.cons ((hv.same s3).same s3b).bot (DAs.cons (DA.lst (s3b.at hp) (fun z => z) ((hx.same s3b).any)) DAs.nil)))
    have s2 := s3.trans s3b
    refine ⟨_, rfl, _, rfl, eqDat st, eqDat st, (d1.same s2).dp, d2.dp, pl_eqDat.shaped (by decide), pl_eqDat.shaped (by decide), ?_⟩
    rw [pl_eqDat.eqv]
    exact k _ (s1'.trans s2)
theorem sc_shrepr : FnScope ["self"] ["self"] (defScope s_Sh_repr) := ⟨rfl, rfl, rfl, by decide +kernel, rfl, by decide +kernel, by decide +kernel⟩
theorem ok_shrepr {f : Addr} {fd : FuncData} (F : Fun K "__repr__" "Shed.__repr__" s_Sh_repr f fd) (T : TxG K mg A) (TC : TxC K A) (G1 : Cal P w K mg base CX0 2 A.Sh_limit ["self"] (spLimit A)) (G2 : Cal P w K mg base CX0 2 A.Sh_len ["self"] (spShLen A)) :
    FnOk P w K mg base CX0 4 f fd ["self"] (spRepr A) := by
  obtain ⟨fd2, F2, kp2, b2⟩ := G2
  refine F.ok sc_shrepr (fun vs H Q E h => ?_) (fun cdv A' outer s H vs Q E hr h => ?_)
  · obtain ⟨a, sl, ll, pre, st, log, rfl, _⟩ := h
    rfl
  · obtain ⟨a, sl, ll, pre, st, log, rfl, h, ok, k⟩ := h
    refine ⟨_, pss_one (ps_ret (pe_joined (.cons pe_str (.cons (pe_fmt (pe_mt0 G1 TC.cl_Shed TC.m_Sh_limit (hr.mono (by decide)) (pv 0))) (.cons pe_str (.cons (pe_fmt (pe_callB (call_lenOwn TC.cl_Shed TC.f_len TC.i_len F2 hr b2 pass0) (by rfl) T.z_len PySem.boot_len (pa_cons (pv 0) pa_nil))) (.cons pe_str .nil))))))), ?_⟩
    have hl : sizeLine = 16777216 := sizeLine_eq
    have bd := ok.bd.1
    have f1 := ok.few
    have f2 := ok.le
    have c1 : st.lim.natAbs.log2 < 1920 := fmt_of bd.1 (by omega)
    have epl := present_len st
    have c2 : ((presentS st).length : Int).natAbs.log2 < 1920 := fmt_of (by omega) (by omega)
    have t1 := int_text_len_1921 c1
    have t2 := int_text_len_1921 c2
    have l1 : ("Shed(limit " : Str).length ≤ 100 := by decide +kernel
    have l2 : (", " : Str).length ≤ 100 := by decide +kernel
    have l3 : (" items)" : Str).length ≤ 100 := by decide +kernel
    refine ⟨_, rfl, by rw [js_empty]; omega, ?_⟩
    refine ⟨_, rfl, sh_at h ⟨a, sl, ll, pre, st, log, rfl, h, .inr ⟨_, rfl, c1, _, rfl, ?_, _, rfl, ?_, ?_⟩⟩⟩
    · rw [js_empty, PySem.Str.length_append]
      show _ + (PySem.Str.ofString (toString st.lim)).length ≤ sizeLine
      omega
    · rw [js_empty, PySem.Str.length_append, PySem.Str.length_append]
      show _ + (PySem.Str.ofString (toString st.lim)).length + _ ≤ sizeLine
      omega
    · obtain ⟨ne, dx, xs, ls, g1, _⟩ := id h
      refine ⟨_, rfl, a, dx, _, rfl, g1, a, sl, ll, pre, st, log, rfl, h, ok, fun H1 s1 => ⟨⟨_, rfl, by omega, by omega⟩, .inr ⟨_, rfl, c2, _, rfl, ?_, _, rfl, ?_, ?_⟩⟩⟩
      · rw [js_empty, PySem.Str.length_append, PySem.Str.length_append, PySem.Str.length_append]
        show _ + (PySem.Str.ofString (toString st.lim)).length + _ + (PySem.Str.ofString (toString ((presentS st).length : Int))).length ≤ sizeLine
        omega
      · rw [js_empty, PySem.Str.length_append, PySem.Str.length_append, PySem.Str.length_append, PySem.Str.length_append]
        show _ + (PySem.Str.ofString (toString st.lim)).length + _ + (PySem.Str.ofString (toString ((presentS st).length : Int))).length + _ ≤ sizeLine
        omega
      · exact k H1 s1
end
end Tw
set_option Elab.async false
set_option linter.all false
set_option maxRecDepth 100000
set_option maxHeartbeats 4000000
/-! state() -/
namespace Tw
open PySem PySem.Spec PyProof.Rows L2
def idxD (s : Sta) (p : List Int) : List Int := p.map fun i => ((presentS s).idxOf i : Nat)
def stateD (s : Sta) : PyData := .tuple [ldD s.lim ((presentS s).map (wt s.ws)), pD (idxD s s.L) (idxD s s.R)]
theorem pl_stateD {n : Nat} {s : Sta} : Pl (n + 3) (stateD s) := Pl.tup fun d hd => by
  simp only [List.mem_cons, List.not_mem_nil, or_false] at hd
  rcases hd with e | e
  · rw [e]
    refine Pl.tup fun d hd => ?_
    simp only [List.mem_cons, List.not_mem_nil, or_false] at hd
    rcases hd with e | e
    · exact e ▸ Pl.int
    · exact e ▸ pl_tI
  · exact e ▸ pl_pD
def spState (A : Ad) : Sp := fun vs H Q _ => ∃ (a sl ll : Addr) (pre : List Sta) (s : Sta) (log : List PyData), vs = [.ref a] ∧ ShedAt A H a sl ll (pre ++ [s]) log ∧ SOk s 900 ∧ ∀ H' v, Same H H' → DA Tp H' (stateD s) v → Q v H'
theorem mem_pres {s : Sta} {i : Int} (h : i ∈ s.L ∨ i ∈ s.R) : i ∈ presentS s := by
  unfold presentS
  exact (List.mergeSort_perm _ _).mem_iff.mpr (List.mem_append.mpr h)
theorem idx_at {l : List Int} {i : Int} (h : i ∈ l) : (l.map V.int)[l.idxOf i]? = some (.int i) := by
  have hl := List.idxOf_lt_length_of_mem h
  rw [List.getElem?_map, List.getElem?_eq_getElem hl]
  simp
theorem idx_no {l : List Int} {i : Int} {m : Nat} {z : V} (hm : m < l.idxOf i) (hz : (l.map V.int)[m]? = some z) : eqV z (.int i) = false := by
  obtain ⟨y, hy, rfl⟩ := int_at hz
  obtain ⟨hl, he⟩ := List.getElem?_eq_some_iff.mp hy
  have := List.not_of_lt_findIdx (p := fun x => x == i) (xs := l) (i := m) hm
  rw [← he]
  show (l[m] == i) = false
  simpa using this
theorem flat_ints {l : List Int} : (l.map V.int).all flatV = true := by
  rw [List.all_map]
  exact List.all_eq_true.mpr fun _ _ => rfl
section
variable {P : Program} {w : World} {K : PySem.W.Frag} {mg : Str → Option Value} {base : Heap} {A : Ad}
theorem sc_shstate : FnScope ["self", "some", "left", "right", "pile", "item", "weight"] ["self"] (defScope s_Sh_state) := ⟨rfl, rfl, rfl, by decide +kernel, rfl, by decide +kernel, by decide +kernel⟩
theorem ok_shstate {f : Addr} {fd : FuncData} (F : Fun K "state" "Shed.state" s_Sh_state f fd) (T : TxG K mg A) (TC : TxC K A) (G1 : Cal P w K mg base CX0 1 A.Sh_now ["self"] (spNow A)) (G2 : Cal P w K mg base CX0 1 A.St_present ["self"] (spPresent A)) (G3 : Cal P w K mg base CX0 2 A.Sh_piles ["self"] (spPiles A))
    (G4 : Cal P w K mg base CX0 2 A.Sh_limit ["self"] (spLimit A)) (G5 : Cal P w K mg base CX0 2 A.Sh_weights ["self"] (spWeights A)) : FnOk P w K mg base CX0 3 f fd ["self"] (spState A) := by
  refine F.ok sc_shstate (fun vs H Q E h => ?_) (fun cdv A' outer s H vs Q E hr h => ?_)
  · obtain ⟨a, sl, ll, pre, st, log, rfl, _⟩ := h
    rfl
  · obtain ⟨a, sl, ll, pre, st, log, rfl, h, ok, k⟩ := h
    have hr1 := hr.mono (j := 1) (by decide)
    refine ⟨_, pss_cons (ps_set (i := 1) sc_shstate.nd rfl (.inr rfl) (pe_mt0 G2 TC.cl_State TC.m_St_present hr1 (pe_mt0 G1 TC.cl_Shed TC.m_Sh_now hr1 (pv 0)))) <|
      pss_cons (ps_asg (pe_lc (own := [("pile", 4)]) (g := gName 4) (tt := tYes) (te := tCB rTupL (tCons (tLc (iTup K (tVar 4)) (gName 5) tYes (tBM K "list" (rIndex K) (tVar 1) (tCons (tVar 5) tNil)) [5]) tNil)) rfl sc_shstate.nd (pi_tup (pe_mt0 G3 TC.cl_Shed TC.m_Sh_piles hr (pv 0))) (blkOk_by (N := ["self", "some", "left", "right", "pile", "item", "weight"]) (sc := defScope s_Sh_state) (by decide +kernel))
          (fun _ _ _ _ _ => pg_name (i := 4) sc_shstate.nd rfl (Or.inl rfl)) (fun _ _ _ _ _ => pts_nil)
          (fun _ _ _ _ _ => pe_tupL T.z_tuple (pe_lc (own := [("item", 5)]) (g := gName 5) (tt := tYes) (wi := iTup K (tVar 4)) (te := tBM K "list" (rIndex K) (tVar 1) (tCons (tVar 5) tNil)) rfl sc_shstate.nd (pi_tup (pv 4)) (blkOk_by (N := ["self", "some", "left", "right", "pile", "item", "weight"]) (sc := relS (compSc (valOf ((defBody s_Sh_state).getD 1 (.Pass ⟨0, 0, 0, 0⟩)))) (defScope s_Sh_state)) (by decide +kernel))
            (fun _ _ _ _ _ => pg_name (i := 5) sc_shstate.nd rfl (Or.inl rfl)) (fun _ _ _ _ _ => pts_nil) (fun _ _ _ _ _ => pe_bm PySem.F.plainAttrs_list PySem.F.slot_list_index PySem.F.type_list_index mt_index (pv 1) (pa_cons (pv 5) pa_nil)))))
        (pg_unl rfl (pgs_cons (pg_name (i := 2) sc_shstate.nd rfl (.inl rfl)) (pgs_cons (pg_name (i := 3) sc_shstate.nd rfl (.inl rfl)) pgs_nil)))) <|
      pss_one (ps_ret (pe_tup (pa_cons (pe_tup (pa_cons (pe_mt0 G4 TC.cl_Shed TC.m_Sh_limit hr (pv 0)) (pa_cons (pe_tupL T.z_tuple (pe_lc (own := [("item", 5), ("weight", 6)]) (g := gTup K 2 (gCons (gName 5) (gCons (gName 6) gNil))) (tt := tYes) (te := tVar 6) rfl sc_shstate.nd (pi_list (pe_mt0 G5 TC.cl_Shed TC.m_Sh_weights hr (pv 0)))
          (blkOk_by (N := ["self", "some", "left", "right", "pile", "item", "weight"]) (sc := defScope s_Sh_state) (by decide +kernel))
          (fun _ _ _ _ _ => pg_tup rfl (pgs_cons (pg_name (i := 5) sc_shstate.nd rfl (Or.inl rfl)) (pgs_cons (pg_name (i := 6) sc_shstate.nd rfl (Or.inl rfl)) pgs_nil))) (fun _ _ _ _ _ => pts_nil) (fun _ _ _ _ _ => pv 6))) pa_nil)))
        (pa_cons (pe_tup (pa_cons (pv 2) (pa_cons (pv 3) pa_nil))) pa_nil)))), ?_⟩
    have f1 := ok.few
    have f2 := ok.le
    refine now_go rfl h fun v hv => st_at hv ⟨v, st, rfl, hv, by omega, fun H1 q s1 nq hq => ?_⟩
    have h1 := h.same s1
    refine ⟨_, rfl, sh_at h1 ⟨a, sl, ll, pre, st, log, rfl, h1, fun pp hp => ?_⟩⟩
    obtain ⟨pa, l, r, rfl, y1, y2, y3⟩ := pD_I hp
    have look : ∀ {H' : Hp}, Same H1 H' → ∀ (i : Nat) (x : V), ([V.ref l, V.ref r] : List V)[i]? = some x → ∃ (b : Addr) (ps : List Int), x = .ref b ∧ H' b = some (.tup (ps.map V.int)) ∧ [st.L, st.R][i]? = some ps ∧ ps.length ≤ 1000 ∧ ∀ i ∈ ps, i ∈ presentS st := by
      intro H' s1 j x hx
      match j, hx with
      | 0, hx =>
        have e := Option.some.inj hx
        exact ⟨l, st.L, e.symm, s1.at y2, rfl, by omega, fun i hi => mem_pres (.inl hi)⟩
      | 1, hx =>
        have e := Option.some.inj hx
        exact ⟨r, st.R, e.symm, s1.at y3, rfl, by omega, fun i hi => mem_pres (.inr hi)⟩
      | (n + 2), hx => cases hx
    refine ⟨pa, rfl, ⟨_, SqT.of y1⟩, fun D hD => lc_tup (K := K) (a := pa) (xs := [.ref l, .ref r]) (fun j H' => Same H1 H' ∧ ∃ ts, H' D = some (.lst ts) ∧ ts.length ≤ j ∧ DAs Tp H' (([st.L, st.R].take j).map fun p => tI (idxD st p)) ts)
      ⟨Same.new hD, [], upd_same, Nat.le_refl _, DAs.nil⟩ (fun j H' _ z => SqT.of (z.1.at y1)) ?_ ?_⟩
    · rintro j x H' hx ⟨s2, ts, hd, hl1, hda⟩
      obtain ⟨b, ps, rfl, hb, hps, hlen, hin⟩ := look s2 j x hx
      refine ⟨rfl, _, rfl, b, rfl, ⟨_, SqT.of hb⟩, fun D2 hD2 => lc_tup (K := K) (a := b) (xs := ps.map V.int) (fun n H2 => Same H' H2 ∧ H2 D2 = some (.lst ((idxD st (ps.take n)).map V.int))) ⟨Same.new hD2, upd_same⟩ (fun n H2 _ z => SqT.of (z.1.at hb)) ?_ ?_⟩
      · rintro n y H2 hy ⟨s3, hd2⟩
        obtain ⟨z, hz, rfl⟩ := int_at hy
        have hzl := (List.getElem?_eq_some_iff.mp hz).1
        have hq2 := s3.at (s2.at hq)
        have hmz := hin z (List.mem_of_getElem? hz)
        refine ⟨rfl, _, rfl, SqL.ty hq2, _, rfl, q, _, _, _, _, rfl, rfl, SqL.of hq2, rfl, flat_ints, idx_at hmz, beq_self_eq_true z, fun m z' hm hz' => idx_no hm hz', _, hd2, ?_, s3.put hD2, ?_⟩
        · rw [List.length_map]
          unfold idxD
          rw [List.length_map, List.length_take]
          exact fit (by omega)
        · rw [upd_same, take_more hz]
          simp [idxD]
      · rintro H2 ⟨s3, hd2⟩
        rw [List.length_map, List.take_length] at hd2
        refine ⟨D2, _, rfl, hd2, fun u hu => ?_⟩
        have hdu : D ≠ u := fun z => by rw [← z, s3.at hd] at hu; cases hu
        have hj : j < 2 := (List.getElem?_eq_some_iff.mp hps).1
        refine ⟨ts, (upd_ne hdu).trans (s3.at hd), fit (by omega), ((s2.trans s3).trans (Same.new hu)).put hD, _, upd_same, by rw [List.length_append, List.length_singleton]; omega, ?_⟩
        rw [take_more hps, List.map_append]
        have kk : Keep (fun b => b = D) H' (upd (upd H2 u (.tup ((idxD st ps).map V.int))) D (.lst (ts ++ [.ref u]))) := ((Keep.of s3).trans (Keep.new hu)).trans (Keep.set ((upd_ne hdu).trans (s3.at hd)) rfl)
        exact DAs.append (hda.kp kk) (DAs.cons (DA.mkI ((upd_ne hdu.symm).trans upd_same)) DAs.nil)
    · rintro H2 ⟨s2, ts, hd, _, hda⟩
      have hda' : DAs Tp H2 [tI (idxD st st.L), tI (idxD st st.R)] ts := hda
      obtain ⟨x1, r1, e1, d1, g1⟩ := hda'.inv
      obtain ⟨x2, r2, e2, d2, g2⟩ := g1.inv
      have e3 := g2.inv0
      subst e1 e2 e3
      have h2 := h1.same s2
      refine ⟨D, _, rfl, SqL.of hd, rfl, _, _, rfl, _, _, rfl, rfl, ?_⟩
      refine ⟨_, rfl, sh_at h2 ⟨a, sl, ll, pre, st, log, rfl, h2, ?_⟩⟩
      refine ⟨_, rfl, sh_at h2 ⟨a, sl, ll, pre, st, log, rfl, h2, ok, fun H3 w xs s3 nw hw hx => ?_⟩⟩
      refine ⟨w, rfl, ⟨_, SqL.of hw⟩, fun D3 hD3 => lc_list (K := K) (a := w) (xs := xs) (fun n H' => Same H3 H' ∧ H' D3 = some (.lst ((((presentS st).take n).map (wt st.ws)).map V.int))) ⟨Same.new hD3, upd_same⟩ (fun n H' _ z => SqL.of (z.1.at hw)) ?_ ?_⟩
      · rintro n y H' hy ⟨s4, hd4⟩
        obtain ⟨d, hd5, dy⟩ := hx.getV hy
        unfold weightsL at hd5
        rw [List.getElem?_map] at hd5
        cases hz : (presentS st)[n]? with
        | none =>
          rw [hz] at hd5
          cases hd5
        | some z =>
          rw [hz] at hd5
          have ed := Option.some.inj hd5
          rw [← ed] at dy
          obtain ⟨t, ys, rfl, ht, dys⟩ := dy.tupI
          obtain ⟨x3, r3, e3, d3, g3⟩ := dys.inv
          obtain ⟨x4, r4, e4, d4, g4⟩ := g3.inv
          have e5 := g4.inv0
          have e6 := d4.intI
          subst e3 e4 e5 e6
          have hzl := (List.getElem?_eq_some_iff.mp hz).1
          have := present_len st
          refine ⟨t, _, rfl, SqT.of (s4.at ht), rfl, _, _, rfl, _, _, rfl, rfl, rfl, _, rfl, _, hd4, ?_, s4.put hD3, ?_⟩
          · rw [List.length_map, List.length_map, List.length_take]
            exact fit (by omega)
          · rw [upd_same, take_more hz]
            simp
      · rintro H' ⟨s4, hd4⟩
        have el : xs.length = (presentS st).length := by
          rw [hx.length]
          unfold weightsL
          rw [List.length_map]
        rw [el, List.take_length] at hd4
        refine ⟨D3, _, rfl, hd4, fun u hu => ⟨fit' (by show 2 ≤ 1000000; decide), fun t1 ht1 => ⟨_, rfl, _, rfl, fit' (by show 2 ≤ 1000000; decide), fun t2 ht2 => ⟨fit' (by show 2 ≤ 1000000; decide), fun t3 ht3 => ?_⟩⟩⟩⟩
        have s24 := (s3.trans s4)
        have s5 : Same H' (upd H' u (.tup (((presentS st).map (wt st.ws)).map V.int))) := Same.new hu
        have gu : upd H' u (.tup (((presentS st).map (wt st.ws)).map V.int)) u = some (.tup (((presentS st).map (wt st.ws)).map V.int)) := upd_same
        generalize upd H' u (.tup (((presentS st).map (wt st.ws)).map V.int)) = H5 at *
        have s6 : Same H5 (upd H5 t1 (.tup [.int st.lim, .ref u])) := Same.new ht1
        have g6 : upd H5 t1 (.tup [.int st.lim, .ref u]) t1 = some (.tup [.int st.lim, .ref u]) := upd_same
        generalize upd H5 t1 (.tup [.int st.lim, .ref u]) = H6 at *
        have s7 : Same H6 (upd H6 t2 (.tup [x1, x2])) := Same.new ht2
        have g7 : upd H6 t2 (.tup [x1, x2]) t2 = some (.tup [x1, x2]) := upd_same
        generalize upd H6 t2 (.tup [x1, x2]) = H7 at *
        have s8 : Same H7 (upd H7 t3 (.tup [.ref t1, .ref t2])) := Same.new ht3
        have s27 := ((s24.trans s5).trans s6).trans s7
        refine k _ _ (((s1.trans s2).trans s27).trans s8) (DA.tup upd_same (DAs.cons ((ldD_M (s7.at g6) (s7.at (s6.at gu))).same s8) (DAs.cons ((DA.tup g7 (DAs.cons (d1.same s27) (DAs.cons (d2.same s27) DAs.nil))).same s8) DAs.nil)))
end
end Tw
set_option Elab.async false
set_option linter.all false
set_option maxRecDepth 100000
set_option maxHeartbeats 4000000
/-! the law's cells and draws -/
namespace Tw
open PySem PySem.Spec PyProof.Rows L2
theorem SqL.same {K : PySem.W.Frag} {H H' : Hp} {a : Addr} {xs : List V} (h : SqL K H a xs) (s : Same H H') : SqL K H' a xs := SqL.ext h s
/-- a box that is drawn from: n draws at most were made -/
def BoxAt (H : Hp) (b : Addr) (n : Nat) : Prop := ∃ x y z : Int, H b = some (.lst [.int x, .int y, .int z]) ∧ 0 ≤ x ∧ (0 ≤ y ∧ y ≤ 2 ^ 62) ∧ 0 ≤ z ∧ z ≤ n
theorem BoxAt.mono {H : Hp} {b : Addr} {n m : Nat} (h : BoxAt H b n) (l : n ≤ m) : BoxAt H b m := by
  obtain ⟨x, y, z, h1, h2, h3, h4, h5⟩ := h
  exact ⟨x, y, z, h1, h2, h3, h4, by omega⟩
theorem BoxAt.kp {M : Addr → Prop} {H H' : Hp} {b : Addr} {n : Nat} (h : BoxAt H b n) (k : Keep M H H') (m : ¬ M b) : BoxAt H' b n := by
  obtain ⟨x, y, z, h1, h2⟩ := h
  exact ⟨x, y, z, k.lst h1 m, h2⟩
theorem BoxAt.same {H H' : Hp} {b : Addr} {n : Nat} (h : BoxAt H b n) (s : Same H H') : BoxAt H' b n := h.kp (Keep.of (M := Bt) s) fun z => z
abbrev Mb (b : Addr) : Addr → Prop := fun c => c = b
def spCellL (K : PySem.W.Frag) : Sp := fun vs H Q _ => ∃ (a : Addr) (ns : List Int) (k : Nat), vs = [.ref a, .int k] ∧ SqL K H a (ns.map V.int) ∧ ∀ r, Q (.int r) H
def spBox (K : PySem.W.Frag) : Sp := fun vs H Q _ => ∃ (a : Addr) (ns : List Int) (k : Nat), vs = [.ref a, .int k] ∧ SqL K H a (ns.map V.int) ∧ k ≤ 100 ∧ ∀ H' b, Same H H' → H b = none → BoxAt H' b 0 → Q (.ref b) H'
/-- a draw below a given number -/
def spTk (top : Int) (up : Nat) : Sp := fun vs H Q _ => ∃ (b : Addr) (n : Nat) (below : Int), vs = [.ref b, .int below] ∧ BoxAt H b n ∧ n + up ≤ 1000000 ∧ 1 ≤ below ∧ below ≤ top ∧ ∀ H' r, Keep (Mb b) H H' → BoxAt H' b (n + up) → 0 ≤ r → r < below → Q (.int r) H'
section
variable {X : Cx} {e e2 : Expr} {te te2 : TE} {p pos : Pos}
def rAbs : List V → Hp → VK → Prop := fun xs H Q => ∃ i : Int, xs = [.int i] ∧ Q (.int (if i < 0 then -i else i)) H
theorem pe_abs (hm : X.mg "abs" = none) (h : PE X e te) (hg : Gl X "abs" := by rfl) (hs : starEach [e] X.env = (false, eval e X.env) :: starEach [] X.env := by rfl) (hp : (backTo pos (starEach [] X.env)).any (·.1) = false := by rfl) :
    PE X (.Call (.Name "abs" p) [e] [] pos) (tCB rAbs (tCons te tNil)) := pe_callB call_abs hg hm PyProof.Rows.boot_abs (pa_cons h pa_nil hs) (by decide) (by decide) hs hp
/-- int(b) of a bool -/
def rIntB : List V → Hp → VK → Prop := fun xs H Q => ∃ k : Bool, xs = [.bl k] ∧ Q (.int (if k then 1 else 0)) H
theorem cr_intB : CallR X (.type "int") rIntB := by
  intro pins s σ H xs us Q I r h
  obtain ⟨k, e, q⟩ := h
  exact call_int1 pins s σ H xs us Q I r (.inr ⟨k, e, q⟩)
theorem pe_intB (hm : X.mg "int" = none) (h : PE X e te) (hg : Gl X "int" := by rfl) (hs : starEach [e] X.env = (false, eval e X.env) :: starEach [] X.env := by rfl) (hp : (backTo pos (starEach [] X.env)).any (·.1) = false := by rfl) :
    PE X (.Call (.Name "int" p) [e] [] pos) (tCB rIntB (tCons te tNil)) := pe_callTy cr_intB hg hm (by decide +kernel) (pa_cons h pa_nil hs) (by decide) (by decide) hs hp
end
theorem mul_bit {i : Int} {k : Bool} : CMul i (if k then 1 else 0) := by
  cases k
  · exact .inr ⟨by decide, by decide⟩
  · exact .inr ⟨by decide, by decide⟩
theorem bit_nn {i : Int} {k : Bool} : 0 ≤ (if i < 0 then -i else i) * (if k then 1 else 0) := by
  have h : 0 ≤ (if i < 0 then -i else i) := by
    split <;> omega
  cases k
  · show 0 ≤ (if i < 0 then -i else i) * 0
    omega
  · show 0 ≤ (if i < 0 then -i else i) * 1
    omega
section
variable {P : Program} {w : World} {K : PySem.W.Frag} {mg : Str → Option Value} {base : Heap} {A : Ad}
theorem sc_cell : FnScope ["_law_script", "_law_k"] ["_law_script", "_law_k"] (defScope s_cellAt) := ⟨rfl, rfl, rfl, by decide +kernel, rfl, by decide +kernel, by decide +kernel⟩
theorem ok_cell {f : Addr} {fd : FuncData} (F : Fun K "_law_cell_at" "_law_cell_at" s_cellAt f fd) (T : TxG K mg A) : FnOk P w K mg base CX0 1 f fd ["_law_script", "_law_k"] (spCellL K) := by
  refine F.ok sc_cell (fun vs H Q E h => ?_) (fun cdv A' outer s H vs Q E hr h => ?_)
  · obtain ⟨a, ns, k, rfl, _⟩ := h
    rfl
  · obtain ⟨a, ns, k, rfl, hs, q⟩ := h
    refine ⟨_, pss_cons (ps_if (pt_cmpR op_lt (pv 1) (pe_callB call_len_seq (by rfl) T.z_len PySem.boot_len (pa_cons (pv 0) pa_nil)) (nomark _)) (pss_one (ps_ret (pe_ix ix_list (pv 0) (pv 1) fun _ _ => rfl))) pss_nil) <|
      pss_one (ps_ret pe_int), ?_⟩
    refine ⟨_, rfl, _, rfl, a, _, rfl, .inl hs, _, _, rfl, rfl, _, rfl, ?_⟩
    rw [List.length_map]
    by_cases c : k < ns.length
    · refine if_true_of (decide_eq_true (by omega)) ?_
      exact ⟨_, rfl, _, rfl, a, _, k, .int (wt ns k), rfl, rfl, hs, at_ints (by omega) (by omega), q _⟩
    · refine if_false_of (decide_eq_false (by omega)) ?_
      exact q 0
theorem sc_box : FnScope ["_law_script", "_law_k", "_law_core"] ["_law_script", "_law_k"] (defScope s_box) := ⟨rfl, rfl, rfl, by decide +kernel, rfl, by decide +kernel, by decide +kernel⟩
theorem ok_box {f : Addr} {fd : FuncData} (F : Fun K "_law_box" "_law_box" s_box f fd) (T : TxG K mg A) (G : Cal P w K mg base CX0 1 A.cellAt ["_law_script", "_law_k"] (spCellL K)) : FnOk P w K mg base CX0 2 f fd ["_law_script", "_law_k"] (spBox K) := by
  refine F.ok sc_box (fun vs H Q E h => ?_) (fun cdv A' outer s H vs Q E hr h => ?_)
  · obtain ⟨a, ns, k, rfl, _⟩ := h
    rfl
  · obtain ⟨a, ns, k, rfl, hs, hk, q⟩ := h
    refine ⟨_, pss_cons (ps_set (i := 2) sc_box.nd rfl (.inl rfl) (pe_fn G hr T.g_cellAt (pa_cons (pv 0) (pa_cons (pv 1) pa_nil)))) <|
      pss_one (ps_ret (pe_lst (pa_cons (pe_op op_mul (pe_abs T.z_abs (pv 2)) (pe_intB T.z_int (pe_cmpR op_ge (pe_abs T.z_abs (pv 2)) (pe_op op_pow pe_int pe_int) (nomark _))))
        (pa_cons (pe_op op_add (pe_op op_add (pe_op op_mod (pv 2) pe_int) (pe_op op_mul pe_int (pv 1))) pe_int) (pa_cons pe_int pa_nil))))), ?_⟩
    refine ⟨_, rfl, _, rfl, a, ns, k, rfl, hs, fun core => ?_⟩
    refine ⟨_, rfl, core, rfl, _, rfl, core, rfl, _, _, rfl, rfl, ⟨by decide, by decide, by decide⟩, _, _, rfl, rfl, _, rfl, _, _, rfl, rfl, mul_bit, ?_⟩
    refine ⟨_, rfl, _, _, rfl, rfl, (by show (0 : Int) < 2305843009213693951; decide), _, rfl, _, _, rfl, rfl, .inl ⟨by decide, by decide⟩, _, _, rfl, rfl, _, _, rfl, rfl, fit' (by show 3 ≤ 1000000; decide), fun b hb => ?_⟩
    have m1 : 0 ≤ core % 2305843009213693951 := Int.emod_nonneg _ (by decide)
    have m2 : core % 2305843009213693951 < 2305843009213693951 := Int.emod_lt_of_pos _ (by decide)
    exact q _ b (Same.new hb) hb ⟨_, _, 0, upd_same, bit_nn, ⟨by omega, by omega⟩, by decide, by decide⟩
theorem sc_tk : FnScope ["_law_box_here", "_law_below", "_law_found", "_law_once", "_law_twice"] ["_law_box_here", "_law_below"] (defScope s_take) := ⟨rfl, rfl, rfl, by decide +kernel, rfl, by decide +kernel, by decide +kernel⟩
theorem ok_tk7 {f : Addr} {fd : FuncData} (F : Fun K "_law_take" "_law_take" s_take f fd) : FnOk P w K mg base CX0 1 f fd ["_law_box_here", "_law_below"] (spTk 10000000 1) := by
  refine F.ok sc_tk (fun vs H Q E h => ?_) (fun cdv A' outer s H vs Q E hr h => ?_)
  · obtain ⟨b, n, below, rfl, _⟩ := h
    rfl
  · obtain ⟨b, n, below, rfl, hbx, hn, l1, l2, q⟩ := h
    refine ⟨_, pss_cons (ps_if (pt_cmpR op_gt (pe_at (pv 0) pe_int) pe_int (nomark _)) (pss_cons (ps_set (i := 2) sc_tk.nd rfl (.inl rfl) (pe_op op_mod (pe_at (pv 0) pe_int) (pv 1))) <| pss_cons (ps_asg (pe_op op_fdivW (pe_at (pv 0) pe_int) (pv 1)) (pg_sub (pv 0) pe_int set_list)) <| pss_one (ps_ret (pv 2))) pss_nil) <|
      pss_cons (ps_if (pt_cmpR op_gt (pv 1) (pe_op op_pow pe_int pe_int) (nomark _)) (pss_one ps_never) pss_nil) <|
      pss_cons (ps_asg (pe_op op_add (pe_at (pv 0) pe_int) pe_int) (pg_sub (pv 0) pe_int set_list)) <|
      pss_cons (ps_set (i := 3) sc_tk.nd rfl (.inl rfl) (pe_op op_mod (pe_op op_mul (pe_op op_add (pe_at (pv 0) pe_int) (pe_op op_mul pe_int (pe_at (pv 0) pe_int))) (pe_op op_add pe_int (pe_at (pv 0) pe_int))) pe_int)) <|
      pss_cons (ps_set (i := 4) sc_tk.nd rfl (.inl rfl) (pe_op op_mod (pe_op op_mul (pe_op op_add (pe_op op_add (pv 3) (pe_at (pv 0) pe_int)) (pe_op op_fdivW (pe_at (pv 0) pe_int) pe_int)) (pe_op op_add (pe_op op_mod (pv 3) pe_int) pe_int)) pe_int)) <|
      pss_one (ps_ret (pe_op op_mod (pe_op op_fdivW (pe_op op_mod (pe_op op_add (pe_op op_mul (pv 4) pe_int) (pv 3)) pe_int) pe_int) (pv 1))), ?_⟩
    obtain ⟨x, y, z, hb, hx, hy, hz, hzn⟩ := hbx
    refine ⟨_, rfl, b, _, 0, _, rfl, rfl, .inr hb, rfl, _, _, rfl, rfl, _, rfl, ?_⟩
    by_cases c : 0 < x
    · refine if_true_of (decide_eq_true c) ?_
      refine ⟨_, rfl, b, _, 0, _, rfl, rfl, .inr hb, rfl, _, rfl, _, _, rfl, rfl, (by omega), ?_⟩
      refine ⟨_, rfl, b, _, 0, _, rfl, rfl, .inr hb, rfl, _, rfl, _, _, rfl, rfl, wide_div (b := 60) (by omega) (by omega) (by decide) (by decide), _, rfl, b, _, 0, 0, rfl, rfl, hb, rfl, ?_⟩
      refine ⟨_, rfl, q _ _ (Keep.set hb rfl) ⟨x / below, y, z, upd_same, Int.ediv_nonneg hx (by omega), hy, hz, by omega⟩ (Int.emod_nonneg _ (by omega)) (Int.emod_lt_of_pos _ (by omega))⟩
    refine if_false_of (decide_eq_false c) ?_
    refine ⟨_, rfl, _, _, rfl, rfl, ⟨by decide, by decide, by decide⟩, _, _, rfl, rfl, _, rfl, ?_⟩
    refine if_false_of (decide_eq_false (by show ¬ (10 : Int) ^ (7 : Int).toNat < below; have e : (10 : Int) ^ (7 : Int).toNat = 10000000 := by decide
                                            omega)) ?_
    refine ⟨_, rfl, b, _, 2, _, rfl, rfl, .inr hb, rfl, _, _, rfl, rfl, _, rfl, b, _, 2, 2, rfl, rfl, hb, rfl, ?_⟩
    have hb2 : upd H b (.lst ([V.int x, .int y, .int z].set 2 (.int (z + 1)))) b = some (.lst [V.int x, .int y, .int (z + 1)]) := upd_same
    refine ⟨_, rfl, b, _, 1, _, rfl, rfl, .inr hb2, rfl, _, rfl, b, _, 2, _, rfl, rfl, .inr hb2, rfl, _, _, rfl, rfl, .inl ⟨by decide, by decide⟩, _, _, rfl, rfl, _, rfl, b, _, 2, _, rfl, rfl, .inr hb2, rfl, _, _, rfl, rfl, _, _, rfl, rfl, .inr ⟨by omega, by omega⟩, _, _, rfl, rfl, (by show (0 : Int) < 2147483647; decide), ?_⟩
    generalize ho : (y + 48271 * (z + 1)) * (39373 + (z + 1)) % 2147483647 = once
    have o1 : 0 ≤ once := ho ▸ Int.emod_nonneg _ (by decide)
    have o2 : once < 2147483647 := ho ▸ Int.emod_lt_of_pos _ (by decide)
    have o3 : 0 ≤ once % 40009 := Int.emod_nonneg _ (by decide)
    have o4 : once % 40009 < 40009 := Int.emod_lt_of_pos _ (by decide)
    refine ⟨_, rfl, _, rfl, b, _, 2, _, rfl, rfl, .inr hb2, rfl, _, _, rfl, rfl, _, rfl, b, _, 1, _, rfl, rfl, .inr hb2, rfl, _, _, rfl, rfl, wide_div (b := 60) (by decide) (by decide) (by decide) (by decide), _, _, rfl, rfl, _, rfl, _, _, rfl, rfl, (by show (0 : Int) < 40009; decide), _, _, rfl, rfl, _, _, rfl, rfl, .inr ⟨by omega, by omega⟩, _, _, rfl, rfl, (by show (0 : Int) < 2147483629; decide), ?_⟩
    generalize ht : (once + (z + 1) + y / 1000003) * (once % 40009 + 7) % 2147483629 = twice
    refine ⟨_, rfl, _, _, rfl, rfl, .inr ⟨by decide, by decide⟩, _, rfl, _, _, rfl, rfl, _, _, rfl, rfl, (by show (0 : Int) < 2147483587; decide), _, _, rfl, rfl, wide_div (b := 60) (by decide) (by decide) (by decide) (by decide), _, rfl, _, _, rfl, rfl, (by show (0 : Int) < below; omega), ?_⟩
    exact q _ _ (Keep.set hb rfl) ⟨x, y, z + 1, upd_same, hx, hy, by omega, by omega⟩ (Int.emod_nonneg _ (by omega)) (Int.emod_lt_of_pos _ (by omega))
theorem ok_tk {f : Addr} {fd : FuncData} (F : Fun K "_law_take" "_law_take" s_take f fd) (T : TxG K mg A) (G : Cal P w K mg base CX0 1 A.take ["_law_box_here", "_law_below"] (spTk 10000000 1)) : FnOk P w K mg base CX0 2 f fd ["_law_box_here", "_law_below"] (spTk 10000000000000 2) := by
  refine F.ok sc_tk (fun vs H Q E h => ?_) (fun cdv A' outer s H vs Q E hr h => ?_)
  · obtain ⟨b, n, below, rfl, _⟩ := h
    rfl
  · obtain ⟨b, n, below, rfl, hbx, hn, l1, l2, q⟩ := h
    refine ⟨_, pss_cons (ps_if (pt_cmpR op_gt (pe_at (pv 0) pe_int) pe_int (nomark _)) (pss_cons (ps_set (i := 2) sc_tk.nd rfl (.inl rfl) (pe_op op_mod (pe_at (pv 0) pe_int) (pv 1))) <| pss_cons (ps_asg (pe_op op_fdivW (pe_at (pv 0) pe_int) (pv 1)) (pg_sub (pv 0) pe_int set_list)) <| pss_one (ps_ret (pv 2))) pss_nil) <|
      pss_cons (ps_if (pt_cmpR op_gt (pv 1) (pe_op op_pow pe_int pe_int) (nomark _)) (pss_one (ps_ret (pe_op op_mod (pe_op op_add (pe_fn G hr T.g_take (pa_cons (pv 0) (pa_cons (pe_op op_pow pe_int pe_int) pa_nil))) (pe_op op_mul (pe_op op_pow pe_int pe_int) (pe_fn G hr T.g_take (pa_cons (pv 0) (pa_cons (pe_op op_add (pe_op op_fdivW (pv 1) (pe_op op_pow pe_int pe_int)) pe_int) pa_nil))))) (pv 1)))) pss_nil) <|
      pss_cons (ps_asg (pe_op op_add (pe_at (pv 0) pe_int) pe_int) (pg_sub (pv 0) pe_int set_list)) <|
      pss_cons (ps_set (i := 3) sc_tk.nd rfl (.inl rfl) (pe_op op_mod (pe_op op_mul (pe_op op_add (pe_at (pv 0) pe_int) (pe_op op_mul pe_int (pe_at (pv 0) pe_int))) (pe_op op_add pe_int (pe_at (pv 0) pe_int))) pe_int)) <|
      pss_cons (ps_set (i := 4) sc_tk.nd rfl (.inl rfl) (pe_op op_mod (pe_op op_mul (pe_op op_add (pe_op op_add (pv 3) (pe_at (pv 0) pe_int)) (pe_op op_fdivW (pe_at (pv 0) pe_int) pe_int)) (pe_op op_add (pe_op op_mod (pv 3) pe_int) pe_int)) pe_int)) <|
      pss_one (ps_ret (pe_op op_mod (pe_op op_fdivW (pe_op op_mod (pe_op op_add (pe_op op_mul (pv 4) pe_int) (pv 3)) pe_int) pe_int) (pv 1))), ?_⟩
    obtain ⟨x, y, z, hb, hx, hy, hz, hzn⟩ := hbx
    refine ⟨_, rfl, b, _, 0, _, rfl, rfl, .inr hb, rfl, _, _, rfl, rfl, _, rfl, ?_⟩
    by_cases c : 0 < x
    · refine if_true_of (decide_eq_true c) ?_
      refine ⟨_, rfl, b, _, 0, _, rfl, rfl, .inr hb, rfl, _, rfl, _, _, rfl, rfl, (by omega), ?_⟩
      refine ⟨_, rfl, b, _, 0, _, rfl, rfl, .inr hb, rfl, _, rfl, _, _, rfl, rfl, wide_div (b := 60) (by omega) (by omega) (by decide) (by decide), _, rfl, b, _, 0, 0, rfl, rfl, hb, rfl, ?_⟩
      refine ⟨_, rfl, q _ _ (Keep.set hb rfl) ⟨x / below, y, z, upd_same, Int.ediv_nonneg hx (by omega), hy, hz, by omega⟩ (Int.emod_nonneg _ (by omega)) (Int.emod_lt_of_pos _ (by omega))⟩
    refine if_false_of (decide_eq_false c) ?_
    refine ⟨_, rfl, _, _, rfl, rfl, ⟨by decide, by decide, by decide⟩, _, _, rfl, rfl, _, rfl, ?_⟩
    have e7 : (10 : Int) ^ (7 : Int).toNat = 10000000 := by decide
    by_cases c2 : (10 : Int) ^ (7 : Int).toNat < below
    · refine if_true_of (decide_eq_true c2) ?_
      have pw : CPow 10 7 := ⟨by decide, by decide, by decide⟩
      have hx0 : x = 0 := by omega
      refine ⟨_, rfl, _, _, rfl, rfl, pw, b, n, _, rfl, ⟨x, y, z, hb, hx, hy, hz, hzn⟩, by omega, by omega, by omega, fun H1 r1 k1 b1 p1 p2 => ?_⟩
      have d1 : 0 ≤ below / 10 ^ (7 : Int).toNat := Int.ediv_nonneg (by omega) (by omega)
      have d2 : below / 10 ^ (7 : Int).toNat ≤ 1000000 := by
        rw [e7]
        omega
      refine ⟨_, _, rfl, rfl, pw, _, rfl, _, rfl, _, _, rfl, rfl, pw, _, _, rfl, rfl, wide_div (b := 60) (by decide) (by decide) (by decide) (by decide), _, _, rfl, rfl, b, n + 1, _, rfl, b1, by omega, by omega, by omega, fun H2 r2 k2 b2 p3 p4 => ?_⟩
      refine ⟨_, _, rfl, rfl, .inl ⟨by decide, by decide⟩, _, _, rfl, rfl, _, rfl, _, _, rfl, rfl, (by show (0 : Int) < below; omega), ?_⟩
      exact q H2 _ (k1.trans k2) b2 (Int.emod_nonneg _ (by omega)) (Int.emod_lt_of_pos _ (by omega))
    refine if_false_of (decide_eq_false c2) ?_
    refine ⟨_, rfl, b, _, 2, _, rfl, rfl, .inr hb, rfl, _, _, rfl, rfl, _, rfl, b, _, 2, 2, rfl, rfl, hb, rfl, ?_⟩
    have hb2 : upd H b (.lst ([V.int x, .int y, .int z].set 2 (.int (z + 1)))) b = some (.lst [V.int x, .int y, .int (z + 1)]) := upd_same
    refine ⟨_, rfl, b, _, 1, _, rfl, rfl, .inr hb2, rfl, _, rfl, b, _, 2, _, rfl, rfl, .inr hb2, rfl, _, _, rfl, rfl, .inl ⟨by decide, by decide⟩, _, _, rfl, rfl, _, rfl, b, _, 2, _, rfl, rfl, .inr hb2, rfl, _, _, rfl, rfl, _, _, rfl, rfl, .inr ⟨by omega, by omega⟩, _, _, rfl, rfl, (by show (0 : Int) < 2147483647; decide), ?_⟩
    generalize ho : (y + 48271 * (z + 1)) * (39373 + (z + 1)) % 2147483647 = once
    have o1 : 0 ≤ once := ho ▸ Int.emod_nonneg _ (by decide)
    have o2 : once < 2147483647 := ho ▸ Int.emod_lt_of_pos _ (by decide)
    have o3 : 0 ≤ once % 40009 := Int.emod_nonneg _ (by decide)
    have o4 : once % 40009 < 40009 := Int.emod_lt_of_pos _ (by decide)
    refine ⟨_, rfl, _, rfl, b, _, 2, _, rfl, rfl, .inr hb2, rfl, _, _, rfl, rfl, _, rfl, b, _, 1, _, rfl, rfl, .inr hb2, rfl, _, _, rfl, rfl, wide_div (b := 60) (by decide) (by decide) (by decide) (by decide), _, _, rfl, rfl, _, rfl, _, _, rfl, rfl, (by show (0 : Int) < 40009; decide), _, _, rfl, rfl, _, _, rfl, rfl, .inr ⟨by omega, by omega⟩, _, _, rfl, rfl, (by show (0 : Int) < 2147483629; decide), ?_⟩
    generalize ht : (once + (z + 1) + y / 1000003) * (once % 40009 + 7) % 2147483629 = twice
    refine ⟨_, rfl, _, _, rfl, rfl, .inr ⟨by decide, by decide⟩, _, rfl, _, _, rfl, rfl, _, _, rfl, rfl, (by show (0 : Int) < 2147483587; decide), _, _, rfl, rfl, wide_div (b := 60) (by decide) (by decide) (by decide) (by decide), _, rfl, _, _, rfl, rfl, (by show (0 : Int) < below; omega), ?_⟩
    exact q _ _ (Keep.set hb rfl) ⟨x, y, z + 1, upd_same, hx, hy, by omega, by omega⟩ (Int.emod_nonneg _ (by omega)) (Int.emod_lt_of_pos _ (by omega))
end
end Tw
set_option Elab.async false
set_option linter.all false
set_option maxRecDepth 100000
set_option maxHeartbeats 4000000
/-! the law's lifts -/
namespace Tw
open PySem PySem.Spec PyProof.Rows L2
def spOf : Sp := fun vs H Q _ => ∃ (b a : Addr) (n : Nat) (xs : List V), vs = [.ref b, .ref a] ∧ BoxAt H b n ∧ n + 2 ≤ 1000000 ∧ H a = some (.lst xs) ∧ a ≠ b ∧ 0 < xs.length ∧ xs.length ≤ 1000000 ∧ ∀ H' (i : Nat) x, Keep (Mb b) H H' → BoxAt H' b (n + 2) → xs[i]? = some x → Q x H'
/-- the lifts from the first i piles -/
def hoD (lim : Int) (ws L R : List Int) : Nat → List PyData
  | 0 => []
  | 1 => lfD false (canN lim ws L)
  | _ => lfD false (canN lim ws L) ++ lfD true (canN lim ws R)
def spHoisted : Sp := fun vs H Q _ => ∃ (v : V) (L R : List Int) (r : Bool) (m : Nat), vs = [v, .str (sd r), .int m] ∧ DA Tp H (pD L R) v ∧ m ≤ (if r then R else L).length ∧ L.length + R.length ≤ 1000 ∧ ∀ H' u, Same H H' → DA Tp H' (pD (moveL L R r m) (moveR L R r m)) u → Q u H'
section
variable {P : Program} {w : World} {K : PySem.W.Frag} {mg : Str → Option Value} {base : Heap} {A : Ad}
theorem sc_of : FnScope ["_law_box_here", "_law_some"] ["_law_box_here", "_law_some"] (defScope s_ofL) := ⟨rfl, rfl, rfl, by decide +kernel, rfl, by decide +kernel, by decide +kernel⟩
theorem ok_of {f : Addr} {fd : FuncData} (F : Fun K "_law_of" "_law_of" s_ofL f fd) (T : TxG K mg A) (G : Cal P w K mg base CX0 2 A.take ["_law_box_here", "_law_below"] (spTk 10000000000000 2)) : FnOk P w K mg base CX0 3 f fd ["_law_box_here", "_law_some"] spOf := by
  refine F.ok sc_of (fun vs H Q E h => ?_) (fun cdv A' outer s H vs Q E hr h => ?_)
  · obtain ⟨b, a, n, xs, rfl, _⟩ := h
    rfl
  · obtain ⟨b, a, n, xs, rfl, hb, hn, ha, hab, l1, l2, q⟩ := h
    refine ⟨_, pss_one (ps_ret (pe_at (pv 1) (pe_fn G hr T.g_take (pa_cons (pv 0) (pa_cons (pe_len T.z_len (pv 1)) pa_nil))))), ?_⟩
    refine ⟨_, rfl, _, rfl, _, rfl, a, xs, rfl, .inr ha, b, n, _, rfl, hb, hn, by omega, by omega, fun H1 r k1 b1 p1 p2 => ?_⟩
    obtain ⟨j, rfl⟩ : ∃ j : Nat, r = (j : Int) := ⟨r.toNat, by omega⟩
    have hj : j < xs.length := by omega
    have e : xs[j]? = some xs[j] := List.getElem?_eq_getElem hj
    exact ⟨a, xs, _, xs[j], rfl, rfl, .inr (k1.lst ha hab), atI_nat e, q H1 j _ k1 b1 e⟩
theorem sc_lweigh : FnScope ["_law_crate", "_law_some", "_law_piece"] ["_law_crate", "_law_some"] (defScope s_lweigh) := ⟨rfl, rfl, rfl, by decide +kernel, rfl, by decide +kernel, by decide +kernel⟩
theorem ok_lweigh {f : Addr} {fd : FuncData} (F : Fun K "_law_weigh" "_law_weigh" s_lweigh f fd) (T : TxG K mg A) : FnOk P w K mg base CX0 1 f fd ["_law_crate", "_law_some"] spWeigh := by
  refine F.ok sc_lweigh (fun vs H Q E h => ?_) (fun cdv A outer s H vs Q E hr h => ?_)
  · obtain ⟨v, lim, ws, a, items, rfl, _⟩ := h
    rfl
  · obtain ⟨v, lim, ws, a, items, rfl, h, ha, hi, hl, k⟩ := h
    obtain ⟨b, wa, rfl, h1, h2⟩ := ldD_I h
    refine ⟨_, pss_one (ps_ret (pe_sum T.z_sum (pe_lc (own := [("_law_piece", 2)]) (g := gName 2) (tt := tYes) rfl sc_lweigh.nd (pi_tup (pv 1)) (blkOk_by (N := ["_law_crate", "_law_some", "_law_piece"]) (sc := defScope s_lweigh) (by decide +kernel))
      (fun _ _ _ _ _ => pg_name (i := 2) sc_lweigh.nd rfl (Or.inl rfl)) (fun _ _ _ _ _ => pts_nil) (fun _ _ _ _ _ => pe_at (pe_at (pv 0) pe_int) (pv 2))))), ?_⟩
    refine ⟨_, rfl, a, rfl, ⟨_, SqT.of ha⟩, fun D hD => lc_tup (K := K) (a := a) (xs := items.map V.int) (fun i H' => Same H H' ∧ H' D = some (.lst (((items.take i).map (wt ws)).map V.int))) ⟨Same.new hD, upd_same⟩ (fun i H' _ q => SqT.of (q.1.at ha)) ?_ ?_⟩
    · rintro i x H' hx ⟨s1, hd⟩
      obtain ⟨z, hz, rfl⟩ := int_at hx
      have hm := hi z (List.mem_of_getElem? hz)
      have hl2 := (List.getElem?_eq_some_iff.mp hz).1
      refine ⟨rfl, _, rfl, _, _, _, _, rfl, rfl, .inl (s1.at h1), rfl, _, rfl, _, _, _, _, rfl, rfl, .inl (s1.at h2), at_ints hm.1 hm.2, _, hd, ?_, s1.put hD, ?_⟩
      · rw [List.length_map, List.length_map, List.length_take]
        exact fit (by omega)
      · rw [upd_same, take_more hz]
        simp
    · rintro H' ⟨s1, hd⟩
      rw [List.length_map, List.take_length] at hd
      exact ⟨_, _, rfl, hd, k _ s1⟩
theorem sc_hoists : FnScope ["_law_crate", "_law_stacks", "_law_found", "_law_way", "_law_pile_so", "_law_count"] ["_law_crate", "_law_stacks"] (defScope s_hoists) := ⟨rfl, rfl, rfl, by decide +kernel, rfl, by decide +kernel, by decide +kernel⟩
theorem ok_hoists {f : Addr} {fd : FuncData} (F : Fun K "_law_hoists" "_law_hoists" s_hoists f fd) (T : TxG K mg A) (G : Cal P w K mg base CX0 1 A.lweigh ["_law_crate", "_law_some"] spWeigh) : FnOk P w K mg base CX0 2 f fd ["_law_crate", "_law_stacks"] spLifts := by
  refine F.ok sc_hoists (fun vs H Q E h => ?_) (fun cdv A outer s H vs Q E hr h => ?_)
  · obtain ⟨ld, pl, lim, ws, L, R, rfl, _⟩ := h
    rfl
  · obtain ⟨ld, pl, lim, ws, L, R, rfl, h1, h2, iL, iR, lL, lR, k⟩ := h
    refine ⟨_, pss_cons (ps_set (i := 2) sc_hoists.nd rfl (.inl rfl) (pe_lst pa_nil)) <|
      pss_cons (ps_for PassesOwn.never rfl (pi_tup (pe_tup (pa_cons (pe_tup (pa_cons pe_str (pa_cons (pe_at (pv 1) pe_int) pa_nil))) (pa_cons (pe_tup (pa_cons pe_str (pa_cons (pe_at (pv 1) pe_int) pa_nil))) pa_nil)))) (pg_tup rfl (pgs_cons (pg_name (i := 3) sc_hoists.nd rfl (.inl rfl)) (pgs_cons (pg_name (i := 4) sc_hoists.nd rfl (.inl rfl)) pgs_nil)))
        (pss_one (ps_for PassesOwn.never rfl (pi_range2 (by rfl) T.z_range (pa_cons pe_int (pa_cons (pe_op op_add (pe_len T.z_len (pv 4)) pe_int) pa_nil))) (pg_name (i := 5) sc_hoists.nd rfl (.inl rfl))
          (pss_one (ps_if (pt_cmpR op_le (pe_fn G hr T.g_lweigh (pa_cons (pv 0) (pa_cons (pe_slice sl_tup' (pv 4) (po_some (pe_op op_sub (pe_len T.z_len (pv 4)) (pv 5))) po_none) pa_nil))) (pe_at (pv 0) pe_int) (nomark _)) (pss_one (ps_expr (pe_bm PySem.F.plainAttrs_list PySem.F.slot_list_append PySem.F.type_list_append mt_append (pv 2) (pa_cons (pe_tup (pa_cons (pv 3) (pa_cons (pv 5) pa_nil))) pa_nil)))) pss_nil))))) <|
      pss_one (ps_ret (pv 2)), ?_⟩
    obtain ⟨pa, l, q, rfl, y1, y2, y3⟩ := pD_I h2
    obtain ⟨lda, wa, rfl, g1, g2⟩ := ldD_I h1
    refine ⟨fit' (by show 0 ≤ 1000000; decide), fun fo hfo => ?_⟩
    have s0 : Same H (upd H fo (.lst [])) := Same.new hfo
    have f0 : upd H fo (.lst []) fo = some (.lst []) := upd_same
    generalize upd H fo (.lst []) = H0 at s0 f0
    refine ⟨_, rfl, _, _, _, _, rfl, rfl, .inl (s0.at y1), rfl, fit' (by show 2 ≤ 1000000; decide), fun t1 ht1 => ?_⟩
    have s1 : Same H0 (upd H0 t1 (.tup [.str "left", .ref l])) := Same.new ht1
    have e1 : upd H0 t1 (.tup [.str "left", .ref l]) t1 = some (.tup [.str "left", .ref l]) := upd_same
    generalize upd H0 t1 (.tup [.str "left", .ref l]) = H1 at *
    refine ⟨_, rfl, _, _, _, _, rfl, rfl, .inl (s1.at (s0.at y1)), rfl, fit' (by show 2 ≤ 1000000; decide), fun t2 ht2 => ?_⟩
    have s2 : Same H1 (upd H1 t2 (.tup [.str "right", .ref q])) := Same.new ht2
    have e2 : upd H1 t2 (.tup [.str "right", .ref q]) t2 = some (.tup [.str "right", .ref q]) := upd_same
    generalize upd H1 t2 (.tup [.str "right", .ref q]) = H2 at *
    refine ⟨fit' (by show 2 ≤ 1000000; decide), fun t3 ht3 => ?_⟩
    have s3 : Same H2 (upd H2 t3 (.tup [.ref t1, .ref t2])) := Same.new ht3
    have e3 : upd H2 t3 (.tup [.ref t1, .ref t2]) t3 = some (.tup [.ref t1, .ref t2]) := upd_same
    generalize upd H2 t3 (.tup [.ref t1, .ref t2]) = H3 at *
    have s03 : Same H H3 := ((s0.trans s1).trans s2).trans s3
    have f3 : H3 fo = some (.lst []) := s3.at (s2.at (s1.at f0))
    have look : ∀ {H' : Hp}, Same H3 H' → ∀ (i : Nat) (x : V), ([V.ref t1, V.ref t2] : List V)[i]? = some x → ∃ (t b : Addr) (r : Bool) (ps : List Int), x = .ref t ∧ H' t = some (.tup [.str (sd r), .ref b]) ∧ H' b = some (.tup (ps.map V.int)) ∧ ps.length ≤ 1000 ∧ InW ws ps ∧ hoD lim ws L R (i + 1) = hoD lim ws L R i ++ lfD r (canN lim ws ps) ∧ (hoD lim ws L R i).length ≤ 1000 := by
      intro H' s4 j x hx
      match j, hx with
      | 0, hx =>
        have e := Option.some.inj hx
        exact ⟨t1, l, false, L, e.symm, s4.at (s3.at (s2.at e1)), (s03.trans s4).at y2, lL, iL, rfl, Nat.zero_le _⟩
      | 1, hx =>
        have e := Option.some.inj hx
        refine ⟨t2, q, true, R, e.symm, s4.at (s3.at e2), (s03.trans s4).at y3, lR, iR, rfl, ?_⟩
        show (lfD false (canN lim ws L)).length ≤ 1000
        unfold lfD
        rw [List.length_map]
        exact Nat.le_trans (can_len _ _ _) lL
      | (n + 2), hx => cases hx
    have cl := canK_len
    refine ⟨t3, rfl, ⟨_, SqT.of e3⟩, for_tup (K := K) (a := t3) (xs := [.ref t1, .ref t2]) (fun i σ H' => ∃ (o1 o2 o3 : Option V), σ = [some (.ref lda), some (.ref pa), some (.ref fo), o1, o2, o3] ∧ Keep (Mb fo) H3 H' ∧ ∃ acc, H' fo = some (.lst acc) ∧ DAs Tp H' (hoD lim ws L R i) acc)
      ⟨none, none, none, rfl, Keep.refl, [], f3, DAs.nil⟩ (fun i σ H' _ z => by obtain ⟨_, _, _, _, kk, _⟩ := z; exact SqT.of (kk.tup e3)) ?_ ?_⟩
    · rintro i x σ H' hx ⟨o1, o2, o3, rfl, kk, acc, hd, hda⟩
      obtain ⟨t, b, r, ps, rfl, ht, hb, hlen, hin, eho, hho⟩ := look (Same.refl H3) i x hx
      have ht' := kk.tup ht
      refine ⟨t, _, rfl, SqT.of ht', rfl, _, _, rfl, _, _, rfl, rfl, ?_⟩
      have hb' := kk.tup hb
      refine ⟨_, rfl, _, _, rfl, .inl hb', _, _, rfl, rfl, 1, ((ps.map V.int).length : Int) + 1, rfl, ?_, ?_⟩
      · rw [List.length_map]
        omega
      · have en : ((((ps.map V.int).length : Int) + 1) - 1).toNat = ps.length := by rw [List.length_map]; omega
        rw [en]
        refine for_range (lo := 1) (n := ps.length) (fun m σ H' => ∃ o3 : Option V, σ = [some (.ref lda), some (.ref pa), some (.ref fo), some (.str (sd r)), some (.ref b), o3] ∧ Keep (Mb fo) H3 H' ∧ ∃ acc, H' fo = some (.lst acc) ∧ DAs Tp H' (hoD lim ws L R i ++ lfD r (canK lim ws ps m)) acc)
          ⟨o3, rfl, kk, acc, hd, by rw [show lfD r (canK lim ws ps 0) = [] from rfl, List.append_nil]; exact hda⟩ ?_ ?_
        · rintro m σ H4 hm ⟨o3, rfl, k4, acc, hd, hda⟩
          have hb4 := k4.tup hb
          refine ⟨_, rfl, _, rfl, _, rfl, _, _, rfl, .inl hb4, _, rfl, _, _, rfl, rfl, _, rfl, _, _, rfl, hb4, fun u H5 s5 hu => ?_⟩
          have em : ((ps.map V.int).length : Int) - (1 + (m : Int)) = (ps.length : Int) - ((m + 1 : Nat) : Int) := by rw [List.length_map]; omega
          rw [em, cut_top (by omega)] at hu
          have k5 : Keep (Mb fo) H3 H5 := k4.trans (Keep.of s5)
          have g15 := k5.tup (s03.at g1)
          refine ⟨_, lim, ws, u, topN ps (m + 1), rfl, ldD_M g15 (k5.tup (s03.at g2)), hu, fun j hj => hin j (top_mem hj), by have := top_len ps (m + 1); omega, fun H6 s6 => ?_⟩
          have k6 : Keep (Mb fo) H3 H6 := k5.trans (Keep.of s6)
          refine ⟨_, rfl, _, _, _, _, rfl, rfl, .inl (s6.at g15), rfl, _, _, rfl, rfl, _, rfl, ?_⟩
          have hd6 := s6.at (s5.at hd)
          have hda6 := (hda.same s5).same s6
          by_cases c : wsum ws (topN ps (m + 1)) ≤ lim
          · refine if_true_of (decide_eq_true c) ?_
            refine ⟨_, rfl, SqL.ty hd6, _, rfl, _, rfl, fit' (by show 2 ≤ 1000000; decide), fun z hz => ?_⟩
            have nzf : z ≠ fo := fun e => by rw [e, hd6] at hz; cases hz
            refine ⟨fo, acc, _, rfl, rfl, (upd_ne nzf.symm).trans hd6, ?_, ?_⟩
            · rw [hda.length, List.length_append]
              unfold lfD
              rw [List.length_map]
              have := canK_len lim ws ps m
              exact fit (by omega)
            · have kz : Keep (Mb fo) H6 (upd (upd H6 z (.tup [.str (sd r), .int (1 + (m : Int))])) fo (.lst (acc ++ [.ref z]))) := (Keep.new hz).trans (Keep.set ((upd_ne nzf.symm).trans hd6) rfl)
              refine ⟨_, rfl, k6.trans kz, _, upd_same, ?_⟩
              rw [canK_yes c]
              unfold lfD
              rw [List.map_append, ← List.append_assoc]
              refine DAs.append (hda6.kp kz) (DAs.cons ?_ DAs.nil)
              have e1 : (1 + (m : Int)) = ((m + 1 : Nat) : Int) := by omega
              exact DA.tup ((upd_ne nzf).trans upd_same) (DAs.cons DA.str (DAs.cons (by rw [e1]; exact DA.int) DAs.nil))
          · refine if_false_of (decide_eq_false c) ?_
            rw [canK_no c]
            exact ⟨_, rfl, k6, acc, hd6, hda6⟩
        · rintro σ H4 ⟨o3, rfl, k4, acc, hd, hda⟩
          exact ⟨_, _, o3, rfl, k4, acc, hd, by rw [eho]; exact hda⟩
    · rintro σ H' ⟨o1, o2, o3, rfl, kk, acc, hd, hda⟩
      have sH : Same H H' := Keep.same (M := Mb fo) ((Keep.of s03).trans kk) fun b e => e ▸ hfo
      refine ⟨_, rfl, k H' fo acc sH hfo hd ?_⟩
      rw [can_D]
      exact hda
theorem sc_hoisted : FnScope ["_law_stacks", "_law_way", "_law_count", "_law_left", "_law_right_here"] ["_law_stacks", "_law_way", "_law_count"] (defScope s_hoisted) := ⟨rfl, rfl, rfl, by decide +kernel, rfl, by decide +kernel, by decide +kernel⟩
theorem ok_hoisted {f : Addr} {fd : FuncData} (F : Fun K "_law_hoisted" "_law_hoisted" s_hoisted f fd) (T : TxG K mg A) : FnOk P w K mg base CX0 1 f fd ["_law_stacks", "_law_way", "_law_count"] spHoisted := by
  refine F.ok sc_hoisted (fun vs H Q E h => ?_) (fun cdv A outer s H vs Q E hr h => ?_)
  · obtain ⟨v, L, R, r, m, rfl, _⟩ := h
    rfl
  · obtain ⟨v, L, R, r, m, rfl, h, hm, hl, k⟩ := h
    obtain ⟨a, l, q, rfl, y1, y2, y3⟩ := pD_I h
    refine ⟨_, pss_cons (ps_asg (pv 0) (pg_tup rfl (pgs_cons (pg_name (i := 3) sc_hoisted.nd rfl (.inl rfl)) (pgs_cons (pg_name (i := 4) sc_hoisted.nd rfl (.inl rfl)) pgs_nil)))) <|
      pss_cons (ps_if (pt_cmpR op_eq (pv 1) pe_str (nomark _)) (pss_one (ps_ret (pe_tup (pa_cons (pe_slice sl_tup' (pv 3) po_none (po_some (pe_op op_sub (pe_len T.z_len (pv 3)) (pv 2)))) (pa_cons (pe_op op_catT' (pv 4) (pe_slice sl_tup' (pv 3) (po_some (pe_op op_sub (pe_len T.z_len (pv 3)) (pv 2))) po_none)) pa_nil))))) pss_nil) <|
      pss_one (ps_ret (pe_tup (pa_cons (pe_op op_catT' (pv 3) (pe_slice sl_tup' (pv 4) (po_some (pe_op op_sub (pe_len T.z_len (pv 4)) (pv 2))) po_none)) (pa_cons (pe_slice sl_tup' (pv 4) po_none (po_some (pe_op op_sub (pe_len T.z_len (pv 4)) (pv 2)))) pa_nil)))), ?_⟩
    refine ⟨_, rfl, a, _, rfl, SqT.of y1, rfl, _, _, rfl, _, _, rfl, rfl, ?_⟩
    refine ⟨_, rfl, rfl, _, rfl, ?_⟩
    cases r with
    | false =>
      have hm' : m ≤ L.length := hm
      have tl := top_len L m
      refine if_true_of (decide_eq_true rfl) ?_
      refine ⟨_, rfl, _, rfl, _, _, rfl, .inl y2, _, rfl, _, _, rfl, rfl, _, rfl, l, _, rfl, y2, fun u H1 s1 hu => ?_⟩
      rw [List.length_map, cut_rest hm'] at hu
      refine ⟨_, rfl, _, rfl, _, rfl, _, _, rfl, .inl (s1.at y2), _, rfl, _, _, rfl, rfl, _, rfl, l, _, rfl, s1.at y2, fun z H2 s2 hz => ?_⟩
      rw [List.length_map, cut_top hm'] at hz
      refine ⟨q, z, _, _, rfl, rfl, s2.at (s1.at y3), hz, by rw [List.length_map, List.length_map]; omega, fun y H3 s3 hy => ⟨fit' (by show 2 ≤ 1000000; decide), fun t ht => ?_⟩⟩
      rw [← List.map_append] at hy
      have s4 : Same H3 (upd H3 t (.tup [.ref u, .ref y])) := Same.new ht
      exact k _ _ (((s1.trans s2).trans s3).trans s4) (pD_M upd_same (s4.at (s3.at (s2.at hu))) (s4.at hy))
    | true =>
      have hm' : m ≤ R.length := hm
      have tl := top_len R m
      refine if_false_of (decide_eq_false fun z => sd_ne (V.str.inj z)) ?_
      refine ⟨_, rfl, _, rfl, _, rfl, _, _, rfl, .inl y3, _, rfl, _, _, rfl, rfl, _, rfl, q, _, rfl, y3, fun z H1 s1 hz => ?_⟩
      rw [List.length_map, cut_top hm'] at hz
      refine ⟨l, z, _, _, rfl, rfl, s1.at y2, hz, by rw [List.length_map, List.length_map]; omega, fun y H2 s2 hy => ?_⟩
      rw [← List.map_append] at hy
      have s12 := s1.trans s2
      refine ⟨_, rfl, _, rfl, _, _, rfl, .inl (s12.at y3), _, rfl, _, _, rfl, rfl, _, rfl, q, _, rfl, s12.at y3, fun u H3 s3 hu => ⟨fit' (by show 2 ≤ 1000000; decide), fun t ht => ?_⟩⟩
      rw [List.length_map, cut_rest hm'] at hu
      have s4 : Same H3 (upd H3 t (.tup [.ref y, .ref u])) := Same.new ht
      exact k _ _ ((s12.trans s3).trans s4) (pD_M upd_same (s4.at (s3.at hy)) (s4.at hu))
end
end Tw
set_option Elab.async false
set_option linter.all false
set_option maxRecDepth 100000
set_option maxHeartbeats 4000000
/-! carried, seen_of -/
namespace Tw
open PySem PySem.Spec PyProof.Rows L2
theorem can_mem {lim : Int} {ws L R : List Int} {r : Bool} {m : Nat} (h : (r, m) ∈ can lim ws L R) : 1 ≤ m ∧ m ≤ (if r then R else L).length ∧ wsum ws (topN (if r then R else L) m) ≤ lim := by
  unfold can at h
  rcases List.mem_append.mp h with h | h
  · obtain ⟨k, hk, e⟩ := List.mem_map.mp h
    cases e
    unfold canN at hk
    obtain ⟨h1, h2⟩ := List.mem_filter.mp hk
    obtain ⟨j, hj, rfl⟩ := List.mem_map.mp h1
    have := List.mem_range.mp hj
    exact ⟨by omega, by show j + 1 ≤ L.length; omega, of_decide_eq_true h2⟩
  · obtain ⟨k, hk, e⟩ := List.mem_map.mp h
    cases e
    unfold canN at hk
    obtain ⟨h1, h2⟩ := List.mem_filter.mp hk
    obtain ⟨j, hj, rfl⟩ := List.mem_map.mp h1
    have := List.mem_range.mp hj
    exact ⟨by omega, by show j + 1 ≤ R.length; omega, of_decide_eq_true h2⟩
theorem can_ok {lim : Int} {ws L R : List Int} {r : Bool} {m : Nat} (h : (r, m) ∈ can lim ws L R) : liftP lim ws L R r m = .ok (moveL L R r m, moveR L R r m) := by
  obtain ⟨_, h2, h3⟩ := can_mem h
  unfold liftP
  rw [if_neg (by omega), if_neg (by omega)]
theorem can_le (lim : Int) (ws L R : List Int) : (can lim ws L R).length ≤ L.length + R.length := by
  unfold can
  rw [List.length_append, List.length_map, List.length_map]
  have := can_len lim ws L
  have := can_len lim ws R
  omega
theorem eqv_nil : ∀ ds : List PyData, PyData.eqv (.list ds) (.list []) = ds.isEmpty
  | [] => by simp [PyData.eqv, PyData.eqvAll]
  | d :: ds => by simp [PyData.eqv, PyData.eqvAll]
theorem pl_lift {n : Nat} {q : Bool × Nat} : Pl (n + 1) (liftD q) := Pl.tup fun d hd => by
  simp only [List.mem_cons, List.not_mem_nil, or_false] at hd
  rcases hd with e | e
  · rw [e]
    refine ⟨?_, by simp only [PyData.depth]; omega⟩
    cases q.1
    · show PyData.canLay0 (.str ("left" : Str)) = true
      decide +kernel
    · show PyData.canLay0 (.str ("right" : Str)) = true
      decide +kernel
  · exact e ▸ Pl.int
theorem pl_lifts {n : Nat} {t : List (Bool × Nat)} : Pl (n + 2) (.list (t.map liftD)) := Pl.lst fun d hd => by
  obtain ⟨q, _, e⟩ := List.mem_map.mp hd
  exact e ▸ pl_lift
/-- a list of lifts is (not) empty -/
theorem ne_nil {H : Hp} {K : PySem.W.Frag} {a e : Addr} {xs : List V} {t : List (Bool × Nat)} {Q : VK} (ha : H a = some (.lst xs)) (hx : DAs Tp H (t.map liftD) xs) (he : H e = some (.lst [])) (q : Q (.bl (!t.isEmpty)) H) : rNeD K (.ref a) (.ref e) H Q := by
  have d1 : DA Bt H (.list (t.map liftD)) (.ref a) := DA.lst ha (fun z => z) hx.any
  have d2 : DA Bt H (.list []) (.ref e) := DA.lst he (fun z => z) DAs.nil
  refine ⟨_, _, d1.dp, d2.dp, (pl_lifts (n := 0)).shaped (by decide), (pl_lifts (n := 0) (t := [])).shaped (by decide), ?_⟩
  rw [eqv_nil]
  cases t <;> exact q
def spCarried : Sp := fun vs H Q _ => ∃ (b : Addr) (cr st : V) (n : Nat) (lim : Int) (ws L R : List Int), vs = [.ref b, cr, st, .int 4] ∧ BoxAt H b n ∧ n + 20 ≤ 1000000 ∧ DA Tp H (ldD lim ws) cr ∧ DA Tp H (pD L R) st ∧ InW ws L ∧ InW ws R ∧ L.length + R.length ≤ 1000 ∧
  ∀ H' u t x xs (tr : List (Bool × Nat)), Keep (Mb b) H H' → BoxAt H' b (n + 20) → H' u = some (.tup [x, .ref t]) → H' t = some (.lst xs) → t ≠ b → H t = none → DAs Tp H' (tr.map liftD) xs → tr.length ≤ 10 → Q (.ref u) H'
/-- all that is seen of a shed behind n operations -/
def seenD (s : Sta) (n : Nat) : PyData := .list [.int s.lim, pD s.L s.R, .list (weightsL s), stateD s, .list ((can s.lim s.ws s.L s.R).map liftD), .int n, .int ((presentS s).length : Int), .str (reprT s)]
def spSeen (A : Ad) : Sp := fun vs H Q _ => ∃ (a sl ll : Addr) (pre : List Sta) (s : Sta) (log : List PyData), vs = [.ref a] ∧ ShedAt A H a sl ll (pre ++ [s]) log ∧ SOk s 900 ∧ ∀ H' p, Same H H' → DA Bt H' (seenD s pre.length) (.ref p) → Q (.ref p) H'
section
variable {P : Program} {w : World} {K : PySem.W.Frag} {mg : Str → Option Value} {base : Heap} {A : Ad}
theorem sc_carried : FnScope ["_law_box_here", "_law_crate", "_law_stacks", "_law_most", "_law_tour", "_law_turn", "_law_some"] ["_law_box_here", "_law_crate", "_law_stacks", "_law_most"] (defScope s_carried) := ⟨rfl, rfl, rfl, by decide +kernel, rfl, by decide +kernel, by decide +kernel⟩
theorem ok_carried {f : Addr} {fd : FuncData} (F : Fun K "_law_carried" "_law_carried" s_carried f fd) (T : TxG K mg A) (G1 : Cal P w K mg base CX0 2 A.take ["_law_box_here", "_law_below"] (spTk 10000000000000 2)) (G2 : Cal P w K mg base CX0 2 A.hoists ["_law_crate", "_law_stacks"] spLifts)
    (G3 : Cal P w K mg base CX0 3 A.ofL ["_law_box_here", "_law_some"] spOf) (G4 : Cal P w K mg base CX0 1 A.hoisted ["_law_stacks", "_law_way", "_law_count"] spHoisted) : FnOk P w K mg base CX0 4 f fd ["_law_box_here", "_law_crate", "_law_stacks", "_law_most"] spCarried := by
  refine F.ok sc_carried (fun vs H Q E h => ?_) (fun cdv A outer s H vs Q E hr h => ?_)
  · obtain ⟨b, cr, st, n, lim, ws, L, R, rfl, _⟩ := h
    rfl
  · obtain ⟨b, cr, st, n, lim, ws, L, R, rfl, hb, hn, hcr, hst, iL, iR, hl, k⟩ := h
    have hr2 := hr.mono (j := 2) (by decide)
    have hr1 := hr.mono (j := 1) (by decide)
    refine ⟨_, pss_cons (ps_set (i := 4) sc_carried.nd rfl (.inl rfl) (pe_lst pa_nil)) <|
      pss_cons (ps_for PassesOwn.never rfl (pi_range1 (by rfl) T.z_range (pa_cons (pe_fn G1 hr2 T.g_take (pa_cons (pv 0) (pa_cons (pe_op op_add (pv 3) pe_int) pa_nil))) pa_nil)) (pg_name (i := 5) sc_carried.nd rfl (.inl rfl))
        (pss_cons (ps_set (i := 6) sc_carried.nd rfl (.inl rfl) (pe_fn G2 hr2 T.g_hoists (pa_cons (pv 1) (pa_cons (pv 2) pa_nil)))) <|
          pss_one (ps_if (pt_cmpR (op_neD hr.units) (pv 6) (pe_lst pa_nil) (nomark _)) (pss_cons (ps_expr (pe_bm PySem.F.plainAttrs_list PySem.F.slot_list_append PySem.F.type_list_append mt_append (pv 4) (pa_cons (pe_fn G3 hr T.g_ofL (pa_cons (pv 0) (pa_cons (pv 6) pa_nil))) pa_nil))) <|
            pss_one (ps_set (i := 2) sc_carried.nd rfl (.inl rfl) (pe_fn G4 hr1 T.g_hoisted (pa_cons (pv 2) (pa_cons (pe_at (pe_at (pv 4) (pe_un un_neg pe_int)) pe_int) (pa_cons (pe_at (pe_at (pv 4) (pe_un un_neg pe_int)) pe_int) pa_nil)))))) pss_nil))) <|
      pss_one (ps_ret (pe_tup (pa_cons (pv 2) (pa_cons (pv 4) pa_nil)))), ?_⟩
    refine ⟨fit' (by show 0 ≤ 1000000; decide), fun t ht => ?_⟩
    have s0 : Same H (upd H t (.lst [])) := Same.new ht
    have f0 : upd H t (.lst []) t = some (.lst []) := upd_same
    generalize upd H t (.lst []) = H0 at s0 f0
    have ntb : t ≠ b := fun z => by
      obtain ⟨_, _, _, e, _⟩ := hb
      rw [z, e] at ht
      cases ht
    refine ⟨_, rfl, _, rfl, _, _, rfl, rfl, b, n, _, rfl, hb.same s0, by omega, by decide, by decide, fun H1 r k1 b1 p1 p2 => ?_⟩
    have p2' : r < 5 := p2
    refine ⟨r, rfl, by omega, by omega, ?_⟩
    refine for_range (lo := 0) (n := r.toNat) (fun i σ H' => ∃ (o1 o2 : Option V) (v : V) (L' R' : List Int) (tr : List (Bool × Nat)) (acc : List V), σ = [some (.ref b), some cr, some v, some (.int 4), some (.ref t), o1, o2] ∧ Keep (fun c => c = b ∨ c = t) H H' ∧ BoxAt H' b (n + 2 + 2 * i) ∧ DA Tp H' (pD L' R') v ∧ InW ws L' ∧ InW ws R' ∧ L'.length + R'.length = L.length + R.length ∧
        H' t = some (.lst acc) ∧ DAs Tp H' (tr.map liftD) acc ∧ tr.length ≤ i)
      ⟨none, none, st, L, R, [], [], rfl, (Keep.of s0).trans (k1.mono fun _ z => .inl z), b1, (hst.same s0).kp k1, iL, iR, rfl, k1.lst f0 ntb, DAs.nil, Nat.le_refl _⟩ ?_ ?_
    · rintro i σ H' hi ⟨o1, o2, v, L', R', tr, acc, rfl, kk, hbx, hv, iL', iR', hl', hta, hda, htl⟩
      refine ⟨_, rfl, _, rfl, cr, v, lim, ws, L', R', rfl, hcr.kp kk, hv, iL', iR', by omega, by omega, fun H2 p xs s2 np hp hx => ?_⟩
      refine ⟨_, rfl, fit' (by show 0 ≤ 1000000; decide), fun e he => ?_⟩
      have s3 : Same H2 (upd H2 e (.lst [])) := Same.new he
      have e3 : upd H2 e (.lst []) e = some (.lst []) := upd_same
      generalize upd H2 e (.lst []) = H3 at s3 e3
      have s23 := s2.trans s3
      have hp3 := s3.at hp
      have k3 := kk.trans (Keep.of s23)
      refine ne_nil hp3 (hx.same s3) e3 ⟨_, rfl, ?_⟩
      cases hc : can lim ws L' R' with
      | nil =>
        refine if_false_of rfl ?_
        exact ⟨_, _, v, L', R', tr, acc, rfl, k3, (hbx.same s23).mono (by omega), hv.same s23, iL', iR', hl', s23.at hta, hda.same s23, by omega⟩
      | cons q0 qr =>
        refine if_true_of rfl ?_
        have npt : p ≠ b := fun z => by
          obtain ⟨_, _, _, e, _⟩ := hbx
          rw [z, e] at np
          cases np
        have xl : xs.length = (can lim ws L' R').length := by rw [hx.length, List.length_map]
        have cle := can_le lim ws L' R'
        have cpos : 0 < (can lim ws L' R').length := by rw [hc]; exact Nat.succ_pos _
        refine ⟨_, rfl, SqL.ty (s23.at hta), _, rfl, _, rfl, b, p, _, xs, rfl, hbx.same s23, by omega, hp3, npt, by omega, by omega, fun H4 j x k4 b4 hx4 => ?_⟩
        have hda3 := hx.same s3
        obtain ⟨d, hd, dx⟩ := hda3.getV hx4
        rw [List.getElem?_map] at hd
        cases hq : (can lim ws L' R')[j]? with
        | none =>
          rw [hq] at hd
          cases hd
        | some q =>
          rw [hq] at hd
          obtain ⟨r', m⟩ := q
          have ed : liftD (r', m) = d := Option.some.inj hd
          subst ed
          have hmem := List.mem_of_getElem? hq
          obtain ⟨m1, m2, m3⟩ := can_mem hmem
          have hta4 := k4.lst (s23.at hta) ntb
          have dx4 := dx.kp k4
          refine ⟨t, acc, x, rfl, rfl, hta4, ?_, ?_⟩
          · rw [hda.length, List.length_map]
            exact fit (by omega)
          · have k5 : Keep (fun c => c = b ∨ c = t) H4 (upd H4 t (.lst (acc ++ [x]))) := Keep.set hta4 (.inr rfl)
            have t5 : upd H4 t (.lst (acc ++ [x])) t = some (.lst (acc ++ [x])) := upd_same
            have b5 : BoxAt (upd H4 t (.lst (acc ++ [x]))) b (n + 2 + 2 * i + 2) := b4.kp (M := fun c => c = t) (Keep.set hta4 rfl) fun z => ntb z.symm
            generalize upd H4 t (.lst (acc ++ [x])) = H5 at k5 t5 b5
            have k4' : Keep (fun c => c = b ∨ c = t) H3 H4 := k4.mono fun _ z => .inl z
            have k05 := (k3.trans k4').trans k5
            obtain ⟨z, rfl, hz⟩ := liftD_I (dx4.kp k5)
            have v5 : DA Tp H5 (pD L' R') v := ((hv.same s23).kp k4').kp k5
            refine ⟨_, rfl, _, rfl, 1, rfl, t, _, _, _, rfl, rfl, .inr t5, atI_last _ _, z, _, 0, _, rfl, rfl, .inl hz, rfl, _, rfl, 1, rfl, t, _, _, _, rfl, rfl, .inr t5, atI_last _ _, z, _, 1, _, rfl, rfl, .inl hz, rfl, ?_⟩
            refine ⟨v, L', R', r', m, rfl, v5, m2, by omega, fun H6 u s6 hu => ?_⟩
            refine ⟨_, _, u, moveL L' R' r' m, moveR L' R' r' m, tr ++ [(r', m)], acc ++ [.ref z], rfl, k05.trans (Keep.of s6), (b5.same s6).mono (by omega), hu, (move_in iL' iR' r' m).1, (move_in iL' iR' r' m).2, ?_, s6.at t5, ?_, by rw [List.length_append, List.length_singleton]; omega⟩
            · have := move_len (L := L') (R := R') m2
              omega
            · rw [List.map_append]
              exact (DAs.append ((((hda.same s23).kp k4').kp k5)) (DAs.cons (dx4.kp k5) DAs.nil)).same s6
    · rintro σ H' ⟨o1, o2, v, L', R', tr, acc, rfl, kk, hbx, hv, iL', iR', hl', hta, hda, htl⟩
      refine ⟨_, rfl, _, rfl, fit' (by show 2 ≤ 1000000; decide), fun u hu => ?_⟩
      have s6 : Same H' (upd H' u (.tup [v, .ref t])) := Same.new hu
      exact k _ u t v acc tr (Keep.drop (kk.trans (Keep.of s6)) fun c z => z.elim .inl fun z => .inr (z ▸ ht)) ((hbx.same s6).mono (by omega)) upd_same (s6.at hta) ntb ht (hda.same s6) (by omega)
theorem sc_seen : FnScope ["_law_barn", "_law_found"] ["_law_barn"] (defScope s_seen) := ⟨rfl, rfl, rfl, by decide +kernel, rfl, by decide +kernel, by decide +kernel⟩
theorem ok_seen {f : Addr} {fd : FuncData} (F : Fun K "_law_seen_of" "_law_seen_of" s_seen f fd) (T : TxG K mg A) (TC : TxC K A) (G1 : Cal P w K mg base CX0 2 A.Sh_limit ["self"] (spLimit A)) (G2 : Cal P w K mg base CX0 2 A.Sh_piles ["self"] (spPiles A)) (G3 : Cal P w K mg base CX0 2 A.Sh_weights ["self"] (spWeights A))
    (G4 : Cal P w K mg base CX0 3 A.Sh_state ["self"] (spState A)) (G5 : Cal P w K mg base CX0 4 A.Sh_lifts ["self"] (spShLifts A)) (G6 : Cal P w K mg base CX0 1 A.Sh_operations ["self"] (spOps A)) (G7 : Cal P w K mg base CX0 2 A.Sh_len ["self"] (spShLen A)) (G8 : Cal P w K mg base CX0 4 A.Sh_repr ["self"] (spRepr A)) :
    FnOk P w K mg base CX0 6 f fd ["_law_barn"] (spSeen A) := by
  obtain ⟨fd7, F7, kp7, b7⟩ := G7
  obtain ⟨fd8, F8, kp8, b8⟩ := G8
  refine F.ok sc_seen (fun vs H Q E h => ?_) (fun cdv A' outer s H vs Q E hr h => ?_)
  · obtain ⟨a, sl, ll, pre, st, log, rfl, _⟩ := h
    rfl
  · obtain ⟨a, sl, ll, pre, st, log, rfl, h, ok, k⟩ := h
    have hr1 := hr.mono (j := 1) (by decide)
    have hr2 := hr.mono (j := 2) (by decide)
    have hr3 := hr.mono (j := 3) (by decide)
    have hr4 := hr.mono (j := 4) (by decide)
    refine ⟨_, pss_cons (ps_set (i := 1) sc_seen.nd rfl (.inl rfl) (pe_lst (pa_cons (pe_mt0 G1 TC.cl_Shed TC.m_Sh_limit hr2 (pv 0)) (pa_cons (pe_mt0 G2 TC.cl_Shed TC.m_Sh_piles hr2 (pv 0)) (pa_cons (pe_mt0 G3 TC.cl_Shed TC.m_Sh_weights hr2 (pv 0)) (pa_cons (pe_mt0 G4 TC.cl_Shed TC.m_Sh_state hr3 (pv 0)) (pa_cons (pe_mt0 G5 TC.cl_Shed TC.m_Sh_lifts hr4 (pv 0)) (pa_cons (pe_mt0 G6 TC.cl_Shed TC.m_Sh_operations hr1 (pv 0)) pa_nil)))))))) <|
      pss_one (ps_ret (pe_op op_cat (pv 1) (pe_lst (pa_cons (pe_callB (call_lenOwn TC.cl_Shed TC.f_len TC.i_len F7 hr3 b7 pass0) (by rfl) T.z_len PySem.boot_len (pa_cons (pv 0) pa_nil)) (pa_cons (pe_callB (call_reprOwn TC.cl_Shed TC.f_repr TC.i_repr F8 hr b8 pass0) (by rfl) T.z_repr PyProof.Rows.boot_repr (pa_cons (pv 0) pa_nil)) pa_nil))))), ?_⟩
    have f1 := ok.few
    have f2 := ok.le
    have epl := present_len st
    refine ⟨_, rfl, sh_at h ⟨a, sl, ll, pre, st, log, rfl, h, ?_⟩⟩
    refine ⟨_, rfl, sh_at h ⟨a, sl, ll, pre, st, log, rfl, h, fun v2 d2 => ?_⟩⟩
    refine ⟨_, rfl, sh_at h ⟨a, sl, ll, pre, st, log, rfl, h, ok, fun H1 w1 xs1 s1 nw hw1 dw => ?_⟩⟩
    have h1 := h.same s1
    refine ⟨_, rfl, sh_at h1 ⟨a, sl, ll, pre, st, log, rfl, h1, ok, fun H2 v4 s2 d4 => ?_⟩⟩
    have h2 := h1.same s2
    refine ⟨_, rfl, sh_at h2 ⟨a, sl, ll, pre, st, log, rfl, h2, ok, fun H3 w3 xs3 s3 nw3 hw3 dl => ?_⟩⟩
    have h3 := h2.same s3
    refine ⟨_, rfl, sh_at h3 ⟨a, sl, ll, _, log, rfl, h3, fit' (by show 6 ≤ 1000000; decide), fun p hp => ?_⟩⟩
    rw [List.length_append, List.length_singleton]
    have s4 : Same H3 (upd H3 p (.lst [.int st.lim, v2, .ref w1, v4, .ref w3, .int (((pre.length + 1 : Nat) : Int) - 1)])) := Same.new hp
    have hp4 : upd H3 p (.lst [.int st.lim, v2, .ref w1, v4, .ref w3, .int (((pre.length + 1 : Nat) : Int) - 1)]) p = some (.lst [.int st.lim, v2, .ref w1, v4, .ref w3, .int (((pre.length + 1 : Nat) : Int) - 1)]) := upd_same
    generalize upd H3 p (.lst [.int st.lim, v2, .ref w1, v4, .ref w3, .int (((pre.length + 1 : Nat) : Int) - 1)]) = H4 at *
    have h4 := h3.same s4
    obtain ⟨ne, dx, _, _, g4, _⟩ := id h4
    refine ⟨_, rfl, _, rfl, a, dx, _, rfl, g4, a, sl, ll, pre, st, log, rfl, h4, ok, fun H5 s5 => ⟨⟨_, rfl, by omega, by omega⟩, ?_⟩⟩
    have h5 := h4.same s5
    refine ⟨_, rfl, a, dx, _, rfl, s5.at g4, a, sl, ll, pre, st, log, rfl, h5, ok, fun H6 s6 => ⟨⟨_, rfl⟩, fit' (by show 2 ≤ 1000000; decide), fun q hq => ?_⟩⟩
    have s7 : Same H6 (upd H6 q (.lst [.int ((presentS st).length : Int), .str (reprT st)])) := Same.new hq
    have s47 := (s5.trans s6).trans s7
    refine ⟨p, q, _, _, rfl, rfl, s47.at hp4, upd_same, fit' (by show 8 ≤ 1000000; decide), fun z hz => ?_⟩
    have s8 : Same (upd H6 q (.lst [.int ((presentS st).length : Int), .str (reprT st)])) _ := Same.new (o := .lst ([.int st.lim, v2, .ref w1, v4, .ref w3, .int (((pre.length + 1 : Nat) : Int) - 1)] ++ [.int ((presentS st).length : Int), .str (reprT st)])) hz
    have s38 := (s4.trans s47).trans s8
    have s28 := s3.trans s38
    have s18 := s2.trans s28
    refine k _ z (s1.trans s18) (DA.lst upd_same (fun z => z) ?_)
    have en : ((pre.length + 1 : Nat) : Int) - 1 = (pre.length : Int) := by omega
    refine DAs.cons DA.int (DAs.cons ((d2.same s1).same s18).bot (DAs.cons (DA.lst (s18.at hw1) (fun z => z) (dw.same s18).any) (DAs.cons (d4.same s28).bot (DAs.cons (DA.lst (s38.at hw3) (fun z => z) (dl.same s38).any) (DAs.cons ?_ (DAs.cons DA.int (DAs.cons DA.str DAs.nil)))))))
    rw [en]
    exact DA.int
end
end Tw
set_option Elab.async false
set_option linter.all false
set_option maxRecDepth 100000
set_option maxHeartbeats 4000000
/-! named: what is said of a kept error -/
namespace Tw
open PySem PySem.Spec PyProof.Rows L2
section
variable {K : PySem.W.Frag} {C D : Addr} {b : Bool}
theorem kit_cls2 (h : PySem.W.subIn K (.ref C) (.ref D) = some b) (ic : PySem.W.isClsIn K D = true) (tc : PySem.W.typeIn K (.ref D) = some (.type "type")) : PySem.W.kitCls K (.ref C) (.ref D) = some b := by
  unfold PySem.W.kitCls
  have e : ((PySem.W.clsIn K D).isSome && PySem.W.typeIn K (.ref D) == some (.type "type")) = true := by
    rw [tc]
    have ic' : (PySem.W.clsIn K D).isSome = true := ic
    rw [ic']
    rfl
  show (if ((PySem.W.clsIn K D).isSome && PySem.W.typeIn K (.ref D) == some (.type "type")) = true then PySem.W.subIn K (.ref C) (.ref D) else none) = some b
  rw [if_pos e]
  exact h
theorem kit_own2 (h : PySem.W.subIn K (.ref C) (.ref D) = some b) (hs : PySem.W.subIn K (.ref C) (.ref C) = some true) (ic : PySem.W.isClsIn K D = true) (tc : PySem.W.typeIn K (.ref D) = some (.type "type")) : PySem.W.kitOne K (.ref C) (.ref D) = some b := by
  unfold PySem.W.kitOne
  by_cases e : C = D
  · subst e
    rw [hs] at h
    cases h
    exact if_pos (by simp)
  · rw [if_neg (by simpa using e)]
    exact kit_cls2 h ic tc
theorem kit_ty2 {B : String} (h : PySem.W.subIn K (.ref C) (.type B) = some b) (m : PySem.W.kitMeta B = true) : PySem.W.kitOne K (.ref C) (.type B) = some b := by
  unfold PySem.W.kitOne
  rw [if_neg (by simp)]
  show (if PySem.W.kitMeta B = true then PySem.W.subIn K (.ref C) (.type B) else none) = some b
  rw [if_pos m]
  exact h
theorem exm_own2 (h : PySem.W.subIn K (.ref C) (.ref D) = some b) (ic : PySem.W.isClsIn K D = true) (tc : PySem.W.typeIn K (.ref D) = some (.type "type")) (bc : PySem.W.subIn K (.ref D) (.type "BaseException") = some true) : PySem.W.exmOne K (.ref C) (.ref D) = some b := by
  unfold PySem.W.exmOne
  rw [if_pos (by rw [bc]; rfl)]
  exact kit_cls2 h ic tc
end
def isE : Er → Bool
  | .empty _ => true
  | _ => false
def isF : Er → Bool
  | .few _ => true
  | _ => false
def isH : Er → Bool
  | .heavy _ => true
  | _ => false
def namedD : Er → PyData
  | .few n => .tuple [.str "TooFew", .int n]
  | .heavy w => .tuple [.str "TooHeavy", .int w]
  | .empty r => .tuple [.str "Empty", .str (sd r)]
/-- what isinstance says of the error -/
structure ErK (K : PySem.W.Frag) (A : Ad) (e : Er) : Prop where
  kE : PySem.W.kitOne K (.ref (erC A e)) (.ref A.cEmpty) = some (isE e)
  kF : PySem.W.kitOne K (.ref (erC A e)) (.ref A.cTooFew) = some (isF e)
  kH : PySem.W.kitOne K (.ref (erC A e)) (.ref A.cTooHeavy) = some (isH e)
  kN : PySem.W.kitAny K (.ref (erC A e)) [.ref A.cNoOperation, .type "KeyError", .type "IndexError"] = some false
  kL : isH e = false → PySem.W.kitOne K (.ref (erC A e)) (.type "LookupError") = some true
  kO : isH e = true → PySem.W.kitOne K (.ref (erC A e)) (.type "OverflowError") = some true
  ex : PySem.W.exmAny K (.ref (erC A e)) [.ref A.cEmpty, .ref A.cNoOperation, .ref A.cTooFew, .ref A.cTooHeavy] = some true
  xf : XfC K (erC A e)
  kc : ExcC K (erC A e)
  nf : PySem.W.findIn K (.ref (erC A e)) (erN e) = some none
theorem any3 {K : PySem.W.Frag} {t c1 c2 c3 : Value} (h1 : PySem.W.kitOne K t c1 = some false) (h2 : PySem.W.kitOne K t c2 = some false) (h3 : PySem.W.kitOne K t c3 = some false) : PySem.W.kitAny K t [c1, c2, c3] = some false := by
  simp only [PySem.W.kitAny, h1, h2, h3]
theorem exm4 {K : PySem.W.Frag} {t c1 c2 c3 c4 : Value} {b1 b2 b3 b4 : Bool} (h1 : PySem.W.exmOne K t c1 = some b1) (h2 : PySem.W.exmOne K t c2 = some b2) (h3 : PySem.W.exmOne K t c3 = some b3) (h4 : PySem.W.exmOne K t c4 = some b4) (h : (b1 || (b2 || (b3 || (b4 || false)))) = true) : PySem.W.exmAny K t [c1, c2, c3, c4] = some true := by
  simp only [PySem.W.exmAny, h1, h2, h3, h4, h]
theorem er_k {K : PySem.W.Frag} {A : Ad} (E : TxE K A) : ∀ e, ErK K A e
  | .few n => ⟨kit_own2 E.s_TooFew_Empty E.s_TooFew_TooFew E.ic_Empty E.tc_Empty, kit_own2 E.s_TooFew_TooFew E.s_TooFew_TooFew E.ic_TooFew E.tc_TooFew, kit_own2 E.s_TooFew_TooHeavy E.s_TooFew_TooFew E.ic_TooHeavy E.tc_TooHeavy,
      any3 (kit_own2 E.s_TooFew_NoOperation E.s_TooFew_TooFew E.ic_NoOperation E.tc_NoOperation) (kit_ty2 E.s_TooFew_KeyError (by decide +kernel)) (kit_ty2 E.s_TooFew_IndexError (by decide +kernel)), fun _ => kit_ty2 E.s_TooFew_LookupError (by decide +kernel), (fun z => by cases z),
      exm4 (exm_own2 E.s_TooFew_Empty E.ic_Empty E.tc_Empty E.bc_Empty) (exm_own2 E.s_TooFew_NoOperation E.ic_NoOperation E.tc_NoOperation E.bc_NoOperation) (exm_own2 E.s_TooFew_TooFew E.ic_TooFew E.tc_TooFew E.bc_TooFew) (exm_own2 E.s_TooFew_TooHeavy E.ic_TooHeavy E.tc_TooHeavy E.bc_TooHeavy) rfl, E.x_TooFew, E.k_TooFew, E.n_TooFew⟩
  | .heavy w => ⟨kit_own2 E.s_TooHeavy_Empty E.s_TooHeavy_TooHeavy E.ic_Empty E.tc_Empty, kit_own2 E.s_TooHeavy_TooFew E.s_TooHeavy_TooHeavy E.ic_TooFew E.tc_TooFew, kit_own2 E.s_TooHeavy_TooHeavy E.s_TooHeavy_TooHeavy E.ic_TooHeavy E.tc_TooHeavy,
      any3 (kit_own2 E.s_TooHeavy_NoOperation E.s_TooHeavy_TooHeavy E.ic_NoOperation E.tc_NoOperation) (kit_ty2 E.s_TooHeavy_KeyError (by decide +kernel)) (kit_ty2 E.s_TooHeavy_IndexError (by decide +kernel)), (fun z => by cases z), fun _ => kit_ty2 E.s_TooHeavy_OverflowError (by decide +kernel),
      exm4 (exm_own2 E.s_TooHeavy_Empty E.ic_Empty E.tc_Empty E.bc_Empty) (exm_own2 E.s_TooHeavy_NoOperation E.ic_NoOperation E.tc_NoOperation E.bc_NoOperation) (exm_own2 E.s_TooHeavy_TooFew E.ic_TooFew E.tc_TooFew E.bc_TooFew) (exm_own2 E.s_TooHeavy_TooHeavy E.ic_TooHeavy E.tc_TooHeavy E.bc_TooHeavy) rfl, E.x_TooHeavy, E.k_TooHeavy, E.n_TooHeavy⟩
  | .empty r => ⟨kit_own2 E.s_Empty_Empty E.s_Empty_Empty E.ic_Empty E.tc_Empty, kit_own2 E.s_Empty_TooFew E.s_Empty_Empty E.ic_TooFew E.tc_TooFew, kit_own2 E.s_Empty_TooHeavy E.s_Empty_Empty E.ic_TooHeavy E.tc_TooHeavy,
      any3 (kit_own2 E.s_Empty_NoOperation E.s_Empty_Empty E.ic_NoOperation E.tc_NoOperation) (kit_ty2 E.s_Empty_KeyError (by decide +kernel)) (kit_ty2 E.s_Empty_IndexError (by decide +kernel)), fun _ => kit_ty2 E.s_Empty_LookupError (by decide +kernel), (fun z => by cases z),
      exm4 (exm_own2 E.s_Empty_Empty E.ic_Empty E.tc_Empty E.bc_Empty) (exm_own2 E.s_Empty_NoOperation E.ic_NoOperation E.tc_NoOperation E.bc_NoOperation) (exm_own2 E.s_Empty_TooFew E.ic_TooFew E.tc_TooFew E.bc_TooFew) (exm_own2 E.s_Empty_TooHeavy E.ic_TooHeavy E.tc_TooHeavy E.bc_TooHeavy) rfl, E.x_Empty, E.k_Empty, E.n_Empty⟩
def spNamed (A : Ad) : Sp := fun vs H Q _ => ∃ (x d : Addr) (e : Er), vs = [.ref x] ∧ H x = some (exv x (erC A e) d) ∧ H d = some (.xd [(erN e, erV e)]) ∧ ∀ H' v, Same H H' → DA Tp H' (namedD e) v → Q v H'
section
variable {P : Program} {w : World} {K : PySem.W.Frag} {mg : Str → Option Value} {base : Heap} {A : Ad}
theorem sc_named : FnScope ["_law_caught", "_law_sorts"] ["_law_caught"] (defScope s_named) := ⟨rfl, rfl, rfl, by decide +kernel, rfl, by decide +kernel, by decide +kernel⟩
theorem ok_named {f : Addr} {fd : FuncData} (F : Fun K "_law_named" "_law_named" s_named f fd) (T : TxG K mg A) (TE : TxE K A) : FnOk P w K mg base CX0 1 f fd ["_law_caught"] (spNamed A) := by
  refine F.ok sc_named (fun vs H Q E h => ?_) (fun cdv A' outer s H vs Q E hr h => ?_)
  · obtain ⟨x, d, e, rfl, _⟩ := h
    rfl
  · obtain ⟨x, d, e, rfl, hx, hd, k⟩ := h
    refine ⟨_, pss_cons (ps_set (i := 1) sc_named.nd rfl (.inl rfl) (pe_lst (pa_cons (pe_callB call_isV (by rfl) T.z_isinstance PyProof.Rows.boot_isinstance (pa_cons (pv 0) (pa_cons (pe_glob (v := .ref A.cEmpty) rfl T.g_cEmpty rfl) pa_nil))) (pa_cons (pe_callB call_isV (by rfl) T.z_isinstance PyProof.Rows.boot_isinstance (pa_cons (pv 0) (pa_cons (pe_glob (v := .ref A.cTooFew) rfl T.g_cTooFew rfl) pa_nil))) (pa_cons (pe_callB call_isV (by rfl) T.z_isinstance PyProof.Rows.boot_isinstance (pa_cons (pv 0) (pa_cons (pe_glob (v := .ref A.cTooHeavy) rfl T.g_cTooHeavy rfl) pa_nil))) pa_nil))))) <|
      pss_cons (ps_if (PW.pt (pw_or (pt_cmpR op_ne (pe_bm PySem.F.plainAttrs_list PySem.F.slot_list_count PySem.F.type_list_count mt_countF (pv 1) (pa_cons pe_bl pa_nil)) pe_int (nomark _))
          (pw_or1 (pt_val (pe_callB call_isVT (by rfl) T.z_isinstance PyProof.Rows.boot_isinstance (pa_cons (pv 0) (pa_cons (pe_tup (pa_cons (pe_glob (v := .ref A.cNoOperation) rfl T.g_cNoOperation rfl) (pa_cons (pe_bltn (v := .ty "KeyError") (by rfl) T.z_KeyError PyProof.Rows.Boot.«KeyError» rfl) (pa_cons (pe_bltn (v := .ty "IndexError") (by rfl) T.z_IndexError PyProof.Rows.Boot.«IndexError» rfl) pa_nil)))) pa_nil))))))) (pss_one ps_never) pss_nil) <|
      pss_cons (ps_if (pt_val (pe_callB call_isV (by rfl) T.z_isinstance PyProof.Rows.boot_isinstance (pa_cons (pv 0) (pa_cons (pe_glob (v := .ref A.cTooHeavy) rfl T.g_cTooHeavy rfl) pa_nil)))) (pss_one (ps_ret (pe_ifExp (pt_val (pe_callB call_isV (by rfl) T.z_isinstance PyProof.Rows.boot_isinstance (pa_cons (pv 0) (pa_cons (pe_bltn (v := .ty "OverflowError") (by rfl) T.z_OverflowError PyProof.Rows.Boot.«OverflowError» rfl) pa_nil)))) (pe_tup (pa_cons pe_str (pa_cons (pe_xv (pv 0)) pa_nil))) (pe_tup (pa_cons pe_str (pa_cons pe_non pa_nil)))))) pss_nil) <|
      pss_cons (ps_if (pt_not (pt_val (pe_callB call_isV (by rfl) T.z_isinstance PyProof.Rows.boot_isinstance (pa_cons (pv 0) (pa_cons (pe_bltn (v := .ty "LookupError") (by rfl) T.z_LookupError PyProof.Rows.Boot.«LookupError» rfl) pa_nil))))) (pss_one ps_never) pss_nil) <|
      pss_one (ps_ret (pe_ifExp (pt_val (pe_at (pv 1) pe_int)) (pe_tup (pa_cons pe_str (pa_cons (pe_xv (pv 0)) pa_nil))) (pe_tup (pa_cons pe_str (pa_cons (pe_xv (pv 0)) pa_nil))))), ?_⟩
    have Y := er_k TE e
    refine ⟨_, rfl, x, _, d, _, _, _, _, rfl, hx, hd, Y.kc, .own _, Y.kE, ?_⟩
    refine ⟨_, rfl, x, _, d, _, _, _, _, rfl, hx, hd, Y.kc, .own _, Y.kF, ?_⟩
    refine ⟨_, rfl, x, _, d, _, _, _, _, rfl, hx, hd, Y.kc, .own _, Y.kH, fit' (by show 3 ≤ 1000000; decide), fun so hso => ?_⟩
    have s1 : Same H (upd H so (.lst [.bl (isE e), .bl (isF e), .bl (isH e)])) := Same.new hso
    have e1 : upd H so (.lst [.bl (isE e), .bl (isF e), .bl (isH e)]) so = some (.lst [.bl (isE e), .bl (isF e), .bl (isH e)]) := upd_same
    generalize upd H so (.lst [.bl (isE e), .bl (isF e), .bl (isH e)]) = H1 at s1 e1
    refine ⟨_, rfl, SqL.ty e1, so, _, .bl true, rfl, rfl, e1, rfl, rfl, rfl, _, rfl, ?_⟩
    refine if_false_of (by cases e <;> rfl) ?_
    refine ⟨_, rfl, fit' (by show 3 ≤ 1000000; decide), fun t ht => ?_⟩
    have s2 : Same H1 (upd H1 t (.tup [.ref A.cNoOperation, .ty "KeyError", .ty "IndexError"])) := Same.new ht
    refine ⟨x, _, d, _, t, _, _, _, rfl, s2.at (s1.at hx), s2.at (s1.at hd), Y.kc, upd_same, .cons (.own _) (.cons (.ty _) (.cons (.ty _) .nil)), Y.kN, _, rfl, ?_⟩
    refine if_false_of rfl ?_
    generalize upd H1 t (.tup [.ref A.cNoOperation, .ty "KeyError", .ty "IndexError"]) = H2 at s2
    have s02 := s1.trans s2
    have hx2 := s02.at hx
    have hd2 := s02.at hd
    refine ⟨_, rfl, x, _, d, _, _, _, _, rfl, hx2, hd2, Y.kc, .own _, Y.kH, _, rfl, ?_⟩
    cases e with
    | heavy wv =>
      refine if_true_of rfl ?_
      refine ⟨_, rfl, x, _, d, _, _, _, _, rfl, hx2, hd2, Y.kc, .ty _, Y.kO rfl, _, rfl, if_true_of rfl ?_⟩
      refine ⟨_, rfl, x, _, d, _, _, rfl, hx2, hd2, Y.xf, Y.nf, lk_here, fit' (by show 2 ≤ 1000000; decide), fun u hu => ?_⟩
      exact k _ _ (s02.trans (Same.new hu)) (DA.tup upd_same (DAs.cons DA.str (DAs.cons DA.int DAs.nil)))
    | few n =>
      refine if_false_of rfl ?_
      refine ⟨_, rfl, x, _, d, _, _, _, _, rfl, hx2, hd2, Y.kc, .ty _, Y.kL rfl, _, rfl, if_false_of rfl ?_⟩
      refine ⟨_, rfl, so, _, 0, _, rfl, rfl, .inr (s2.at e1), rfl, _, rfl, if_false_of rfl ?_⟩
      refine ⟨_, rfl, x, _, d, _, _, rfl, hx2, hd2, Y.xf, Y.nf, lk_here, fit' (by show 2 ≤ 1000000; decide), fun u hu => ?_⟩
      exact k _ _ (s02.trans (Same.new hu)) (DA.tup upd_same (DAs.cons DA.str (DAs.cons DA.int DAs.nil)))
    | empty r =>
      refine if_false_of rfl ?_
      refine ⟨_, rfl, x, _, d, _, _, _, _, rfl, hx2, hd2, Y.kc, .ty _, Y.kL rfl, _, rfl, if_false_of rfl ?_⟩
      refine ⟨_, rfl, so, _, 0, _, rfl, rfl, .inr (s2.at e1), rfl, _, rfl, if_true_of rfl ?_⟩
      refine ⟨_, rfl, x, _, d, _, _, rfl, hx2, hd2, Y.xf, Y.nf, lk_here, fit' (by show 2 ≤ 1000000; decide), fun u hu => ?_⟩
      exact k _ _ (s02.trans (Same.new hu)) (DA.tup upd_same (DAs.cons DA.str (DAs.cons DA.str DAs.nil)))
end
end Tw
set_option Elab.async false
set_option linter.all false
set_option maxRecDepth 100000
set_option maxHeartbeats 4000000
/-! asked: one operation, what is told of it -/
namespace Tw
open PySem PySem.Spec PyProof.Rows L2
/-- put as its callers see it -/
structure PutK (P : Program) (w : World) (K : PySem.W.Frag) (mg : Str → Option Value) (base : Heap) (A : Ad) (fd : FuncData) : Prop where
  F : FnOk P w K mg base CX0 5 A.Sh_put fd ["self", "weight", "side"] (spPut A)
  b : ∃ ds, Vals [V.str "left"] ds ∧ Binds K fd ["self", "weight", "side"] ds
  kb : KBn K fd ["self", "weight", "side"] 2 ["side"] (fun us ws => us ++ ws) (fun vs zs => vs ++ zs)
theorem put_b {K : PySem.W.Frag} {f : Addr} {fd : FuncData} (F : FunD K "put" "Shed.put" (defArgs s_Sh_put) (defBody s_Sh_put) (defScope s_Sh_put) [] [("side", .str "left")] f fd) : ∃ ds, Vals [V.str "left"] ds ∧ Binds K fd ["self", "weight", "side"] ds :=
  F.binds0 2 (by simp) rfl fun D doc pm an cdv ct us ks h1 h2 => by
    match us, h1, ks, h2 with
    | [u1, u2], _, [k], _ => exact ⟨_, _, _, _, _, _, rfl, rfl, rfl⟩
theorem put_kb {K : PySem.W.Frag} {f : Addr} {fd : FuncData} (F : FunD K "put" "Shed.put" (defArgs s_Sh_put) (defBody s_Sh_put) (defScope s_Sh_put) [] [("side", .str "left")] f fd) : KBn K fd ["self", "weight", "side"] 2 ["side"] (fun us ws => us ++ ws) (fun vs zs => vs ++ zs) := by
  obtain ⟨mv, h⟩ := F.kbinds0 (ps := ["self", "weight", "side"]) 2 ["side"] [] (fun us mv ws => us ++ ws) (by simp) (fun _ h => by cases h) (fun r1 _ r2 => r1.append r2) fun D doc pm an cdv ct us mv ws h1 h2 h3 => by
    match us, h1, mv, h2, ws, h3 with
    | [u1, u2], _, [], _, [k], _ => exact rfl
  exact h
/-- an operation by its deed -/
def spAsked (A : Ad) : Sp := fun vs H Q _ => ∃ (a sl ll : Addr) (pre : List Sta) (s : Sta) (log : List PyData) (d : Deed) (v : V), vs = [.ref a, v] ∧ DA (Mx sl ll) H d.D v ∧ ShedAt A H a sl ll (pre ++ [s]) log ∧ SOk s 900 ∧ pre.length ≤ 1000 ∧ log.length ≤ 10000 ∧
  (∀ t s', act s d = .ok (t, s') → ∀ H' u, Keep (Mx sl ll) H H' → ShedAt A H' a sl ll ((pre ++ [s]) ++ [s']) (log ++ logD d.name) → DA Tp H' (toldD t) u → Q u H') ∧
  (∀ e, act s d = .error e → ∀ H' u, Keep (Mx sl ll) H H' → ShedAt A H' a sl ll (pre ++ [s]) (log ++ logD d.name) → DA Tp H' (namedD e) u → Q u H')
theorem lifts_Tp {M : Addr → Prop} {H : Hp} : ∀ {t : List (Bool × Nat)} {xs : List V}, DAs M H (t.map liftD) xs → DAs Tp H (t.map liftD) xs
  | [], _, h => by
    rw [h.inv0]
    exact DAs.nil
  | q :: t, _, h => by
    obtain ⟨x, r, rfl, h1, h2⟩ := h.inv
    obtain ⟨z, rfl, hz⟩ := liftD_I (r := q.1) (m := q.2) h1
    exact DAs.cons (DA.tup hz (DAs.cons DA.str (DAs.cons DA.int DAs.nil))) (lifts_Tp h2)
section
variable {M : Addr → Prop} {H : Hp} {v : V}
theorem deed2 {x y : PyData} (h : DA M H (.tuple [x, y]) v) : ∃ a u w, v = .ref a ∧ H a = some (.tup [u, w]) ∧ DA M H x u ∧ DA M H y w := by
  obtain ⟨a, xs, e, h1, h2⟩ := h.tupI
  obtain ⟨u, r, rfl, d1, h3⟩ := h2.inv
  obtain ⟨w, r2, rfl, d2, h4⟩ := h3.inv
  rw [h4.inv0] at h1
  exact ⟨a, u, w, e, h1, d1, d2⟩
theorem deed3 {x y z : PyData} (h : DA M H (.tuple [x, y, z]) v) : ∃ a u w p, v = .ref a ∧ H a = some (.tup [u, w, p]) ∧ DA M H x u ∧ DA M H y w ∧ DA M H z p := by
  obtain ⟨a, xs, e, h1, h2⟩ := h.tupI
  obtain ⟨u, r, rfl, d1, h3⟩ := h2.inv
  obtain ⟨w, r2, rfl, d2, h4⟩ := h3.inv
  obtain ⟨p, r3, rfl, d3, h5⟩ := h4.inv
  rw [h5.inv0] at h1
  exact ⟨a, u, w, p, e, h1, d1, d2, d3⟩
theorem deed4 {x y z k : PyData} (h : DA M H (.tuple [x, y, z, k]) v) : ∃ a u w p q, v = .ref a ∧ H a = some (.tup [u, w, p, q]) ∧ DA M H x u ∧ DA M H y w ∧ DA M H z p ∧ DA M H k q := by
  obtain ⟨a, xs, e, h1, h2⟩ := h.tupI
  obtain ⟨u, r, rfl, d1, h3⟩ := h2.inv
  obtain ⟨w, r2, rfl, d2, h4⟩ := h3.inv
  obtain ⟨p, r3, rfl, d3, h5⟩ := h4.inv
  obtain ⟨q, r4, rfl, d4, h6⟩ := h5.inv
  rw [h6.inv0] at h1
  exact ⟨a, u, w, p, q, e, h1, d1, d2, d3, d4⟩
end
section
variable {P : Program} {w : World} {K : PySem.W.Frag} {mg : Str → Option Value} {base : Heap} {A : Ad}
theorem sc_asked : FnScope ["_law_barn", "_law_deed_here", "_law_found", "_law_caught", "_law_word", "error"] ["_law_barn", "_law_deed_here"] (defScope s_asked) := ⟨rfl, rfl, rfl, by decide +kernel, rfl, by decide +kernel, by decide +kernel⟩
abbrev tDk (i : Int) : TE := tOp rAt (tVar 1) (tC (.int i))
theorem ok_asked {f fdp : _} {fd : FuncData} (F : Fun K "_law_asked" "_law_asked" s_asked f fd) (T : TxG K mg A) (TC : TxC K A) (TE : TxE K A) (GP : PutK P w K mg base A fdp) (G1 : Cal P w K mg base (L2.CX P w) 6 A.Sh_take ["self", "side"] (spTake A)) (G2 : Cal P w K mg base (L2.CX P w) 5 A.Sh_lift ["self", "side", "many"] (spLift A))
    (G3 : Cal P w K mg base (L2.CX P w) 5 A.Sh_lift_all ["self", "row"] (spLiftAllM A)) (G4 : Cal P w K mg base CX0 4 A.Sh_set_limit ["self", "limit"] (spSetL A)) (G5 : Cal P w K mg base CX0 1 A.named ["_law_caught"] (spNamed A)) : FnOk P w K mg base CX0 7 f fd ["_law_barn", "_law_deed_here"] (spAsked A) := by
  obtain ⟨dsp, rdp, bp⟩ := GP.b
  refine F.ok sc_asked (fun vs H Q E h => ?_) (fun cdv A' outer s H vs Q E hr h => ?_)
  · obtain ⟨a, sl, ll, pre, st, log, d, v, rfl, _⟩ := h
    rfl
  · obtain ⟨a, sl, ll, pre, st, log, d, v, rfl, hd, h, ok, hf, hs, kY, kN⟩ := h
    have hr1 := hr.mono (j := 1) (by decide)
    have hr4 := hr.mono (j := 4) (by decide)
    have hr5 := hr.mono (j := 5) (by decide)
    refine ⟨_, pss_cons (ps_par3 (i := 2) (j := 3) (l := 4) rfl sc_asked.nd rfl rfl rfl (by decide) (by decide) (by decide) rfl rfl rfl (pa_cons pe_non (pa_cons pe_non (pa_cons (pe_at (pv 1) pe_int) pa_nil))) (by rfl)) <|
      pss_cons (ps_try_hold (i := 5) (j := 3) (c1 := .ref A.cEmpty) (c2 := .ref A.cNoOperation) (c3 := .ref A.cTooFew) (c4 := .ref A.cTooHeavy)
        (tb := fun W => tIfS (tTest (tOp rEq (tVar 4) (tC (.str "put")))) (tAsg (tIf (tTest (tOp (rI0 fun i j => .bl (decide (j < i))) (tCB rLen (tCons (tVar 1) tNil)) (tC (.int 3)))) (tMeth A.cShed "put" (spPut A) [.str "left"] E0 (tVar 0) (tCons (tDk 1) tNil)) (tMethN A.cShed "put" 2 (["side"] : List Str).length (spPut A) (fun vs zs => vs ++ zs) (tVar 0) (tCons (tDk 1) tNil) (tCons (tDk 2) tNil))) (gName 2))
          (tIfS (tTest (tOp rEq (tVar 4) (tC (.str "take")))) (tAsg (tMtX A.cShed "take" (spTake A) (WE W) (tVar 0) (tCons (tDk 1) tNil)) (gName 2))
          (tIfS (tTest (tOp rEq (tVar 4) (tC (.str "lift")))) (tAsg (tMtX A.cShed "lift" (spLift A) (WE W) (tVar 0) (tCons (tDk 1) (tCons (tDk 2) tNil))) (gName 2))
          (tIfS (tTest (tOp rEq (tVar 4) (tC (.str "lift_all")))) (tAsg (tMtX A.cShed "lift_all" (spLiftAllM A) (WE W) (tVar 0) (tCons (tDk 1) tNil)) (gName 2))
            (tAsg (tMt A.cShed "set_limit" (spSetL A) (tVar 0) (tCons (tDk 1) tNil)) (gName 2))))))
        rfl rfl rfl sc_asked.nd rfl rfl rfl rfl (by rfl) (by rfl) (by rfl) (by rfl) T.g_cEmpty T.g_cNoOperation T.g_cTooFew T.g_cTooHeavy (by decide) (by decide) (by decide) (by decide) (by decide) (by decide) rfl rfl
        (fun W pn xe tk _ => pss_one (ps_if (pt_cmpR op_eq (pv 4) pe_str (nomark _)) (pss_one (ps_set (i := 2) sc_asked.nd rfl (.inl rfl) (pe_ifExp (pt_cmpR op_gt (pe_len T.z_len (pv 1)) pe_int (nomark _)) (pe_meth (pv 0) TC.cl_Shed TC.m_Sh_put GP.F hr5 bp rdp pass0 (pa_cons (pe_at (pv 1) pe_int) pa_nil))
              (pe_methN (pv 0) TC.cl_Shed TC.m_Sh_put GP.F hr5 GP.kb (pa_cons (pe_at (pv 1) pe_int) pa_nil) (pk_cons (pe_at (pv 1) pe_int) pk_nil)))))
          (pss_one (ps_if (pt_cmpR op_eq (pv 4) pe_str (nomark _)) (pss_one (ps_set (i := 2) sc_asked.nd rfl (.inl rfl) (pe_mtX G1 TC.cl_Shed TC.m_Sh_take hr (fun σ => passAt tk σ) (pv 0) (pa_cons (pe_at (pv 1) pe_int) pa_nil))))
          (pss_one (ps_if (pt_cmpR op_eq (pv 4) pe_str (nomark _)) (pss_one (ps_set (i := 2) sc_asked.nd rfl (.inl rfl) (pe_mtX G2 TC.cl_Shed TC.m_Sh_lift hr5 (fun σ => passAt tk σ) (pv 0) (pa_cons (pe_at (pv 1) pe_int) (pa_cons (pe_at (pv 1) pe_int) pa_nil)))))
          (pss_one (ps_if (pt_cmpR op_eq (pv 4) pe_str (nomark _)) (pss_one (ps_set (i := 2) sc_asked.nd rfl (.inl rfl) (pe_mtX G3 TC.cl_Shed TC.m_Sh_lift_all hr5 (fun σ => passAt tk σ) (pv 0) (pa_cons (pe_at (pv 1) pe_int) pa_nil))))
            (pss_one (ps_set (i := 2) sc_asked.nd rfl (.inl rfl) (pe_mt G4 TC.cl_Shed TC.m_Sh_set_limit hr4 (pv 0) (pa_cons (pe_at (pv 1) pe_int) pa_nil))))))))))))) <|
      pss_one (ps_ret (pe_ifExp (pt_cmpR op_isN (pv 3) pe_non (nomark _)) (pe_tup (pa_cons pe_str (pa_cons (pv 2) pa_nil))) (pe_fn G5 hr1 T.g_named (pa_cons (pv 3) pa_nil)))), ?_⟩
    cases d with
    | put wv r =>
      obtain ⟨da, u0, u1, u2, rfl, hda, e0, e1, e2⟩ := deed3 hd
      cases e0.strI
      cases e1.intI
      cases e2.strI
      refine ⟨_, rfl, da, _, 0, _, rfl, rfl, .inl hda, rfl, _, _, _, rfl, ?_⟩
      refine ⟨_, rfl, rfl, _, rfl, if_true_of (decide_eq_true rfl) ?_⟩
      refine ⟨_, rfl, da, _, rfl, .inl hda, _, _, rfl, rfl, _, rfl, ?_⟩
      refine if_false_of (by rfl) ?_
      refine ⟨_, rfl, sh_at h ⟨_, rfl, da, _, 1, _, rfl, rfl, .inl hda, rfl, _, rfl, da, _, 2, _, rfl, rfl, .inl hda, rfl, rfl, rfl, ?_⟩⟩
      refine ⟨a, sl, ll, pre, st, log, wv, r, rfl, ⟨h, ok, hf, hs, fun t s' ea H' u k' h' du => ?_, fun e ea => by cases ea⟩⟩
      refine ⟨_, rfl, rfl, _, rfl, if_true_of (decide_eq_true rfl) ⟨_, rfl, fit' (by show 2 ≤ 1000000; decide), fun p hp => ?_⟩⟩
      exact kY t s' ea _ _ (k'.trans (Keep.new hp)) (h'.same (Same.new hp)) (DA.tup upd_same (DAs.cons DA.str (DAs.cons (du.same (Same.new hp)) DAs.nil)))
    | putP wv =>
      obtain ⟨da, u0, u1, u2, u3, rfl, hda, e0, e1, e2, e3⟩ := deed4 hd
      cases e0.strI
      cases e1.intI
      cases e2.strI
      cases e3.strI
      refine ⟨_, rfl, da, _, 0, _, rfl, rfl, .inl hda, rfl, _, _, _, rfl, ?_⟩
      refine ⟨_, rfl, rfl, _, rfl, if_true_of (decide_eq_true rfl) ?_⟩
      refine ⟨_, rfl, da, _, rfl, .inl hda, _, _, rfl, rfl, _, rfl, ?_⟩
      refine if_true_of (by rfl) ?_
      refine ⟨_, rfl, sh_at h ⟨_, rfl, da, _, 1, _, rfl, rfl, .inl hda, rfl, ?_⟩⟩
      refine ⟨a, sl, ll, pre, st, log, wv, false, rfl, ⟨h, ok, hf, hs, fun t s' ea H' u k' h' du => ?_, fun e ea => by cases ea⟩⟩
      refine ⟨_, rfl, rfl, _, rfl, if_true_of (decide_eq_true rfl) ⟨_, rfl, fit' (by show 2 ≤ 1000000; decide), fun p hp => ?_⟩⟩
      exact kY t s' ea _ _ (k'.trans (Keep.new hp)) (h'.same (Same.new hp)) (DA.tup upd_same (DAs.cons DA.str (DAs.cons (du.same (Same.new hp)) DAs.nil)))
    | take r =>
      obtain ⟨da, u0, u1, rfl, hda, e0, e1⟩ := deed2 hd
      cases e0.strI
      cases e1.strI
      refine ⟨_, rfl, da, _, 0, _, rfl, rfl, .inl hda, rfl, _, _, _, rfl, ?_⟩
      refine ⟨_, rfl, rfl, _, rfl, if_false_of (decide_eq_false fun z => absurd (V.str.inj z) (by decide +kernel)) ?_⟩
      refine ⟨_, rfl, rfl, _, rfl, if_true_of (decide_eq_true rfl) ?_⟩
      refine ⟨_, rfl, sh_at h ⟨_, rfl, da, _, 1, _, rfl, rfl, .inl hda, rfl, ?_⟩⟩
      refine ⟨a, sl, ll, pre, st, log, r, rfl, ⟨h, ok, hf, hs, fun t s' ea H' u k' h' du => ?_, fun e ea H' dd k' nd hdd h' => ⟨_, dd, rfl, rfl, (er_k TE e).ex, fun x hx => ?_⟩⟩⟩
      · skip
        refine ⟨_, rfl, rfl, _, rfl, if_true_of (decide_eq_true rfl) ⟨_, rfl, fit' (by show 2 ≤ 1000000; decide), fun p hp => ?_⟩⟩
        exact kY t s' ea _ _ (k'.trans (Keep.new hp)) (h'.same (Same.new hp)) (DA.tup upd_same (DAs.cons DA.str (DAs.cons (du.same (Same.new hp)) DAs.nil)))
      · skip
        have sx : Same H' (upd H' x (exv x (erC A e) dd)) := Same.new hx
        refine ⟨_, rfl, rfl, _, rfl, if_false_of (decide_eq_false (fun z => by cases z)) ⟨_, rfl, x, dd, e, rfl, upd_same, sx.at hdd, fun H2 u s2 du => ?_⟩⟩
        exact kN e ea H2 u (k'.trans (Keep.of (sx.trans s2))) ((h'.same sx).same s2) du
    | lift r m =>
      obtain ⟨da, u0, u1, u2, rfl, hda, e0, e1, e2⟩ := deed3 hd
      cases e0.strI
      cases e1.strI
      cases e2.intI
      refine ⟨_, rfl, da, _, 0, _, rfl, rfl, .inl hda, rfl, _, _, _, rfl, ?_⟩
      refine ⟨_, rfl, rfl, _, rfl, if_false_of (decide_eq_false fun z => absurd (V.str.inj z) (by decide +kernel)) ?_⟩
      refine ⟨_, rfl, rfl, _, rfl, if_false_of (decide_eq_false fun z => absurd (V.str.inj z) (by decide +kernel)) ?_⟩
      refine ⟨_, rfl, rfl, _, rfl, if_true_of (decide_eq_true rfl) ?_⟩
      refine ⟨_, rfl, sh_at h ⟨_, rfl, da, _, 1, _, rfl, rfl, .inl hda, rfl, _, rfl, da, _, 2, _, rfl, rfl, .inl hda, rfl, ?_⟩⟩
      refine ⟨a, sl, ll, pre, st, log, r, m, rfl, ⟨h, ok, hf, hs, fun t s' ea H' u k' h' du => ?_, fun e ea H' dd k' nd hdd h' => ⟨_, dd, rfl, rfl, (er_k TE e).ex, fun x hx => ?_⟩⟩⟩
      · skip
        refine ⟨_, rfl, rfl, _, rfl, if_true_of (decide_eq_true rfl) ⟨_, rfl, fit' (by show 2 ≤ 1000000; decide), fun p hp => ?_⟩⟩
        exact kY t s' ea _ _ (k'.trans (Keep.new hp)) (h'.same (Same.new hp)) (DA.tup upd_same (DAs.cons DA.str (DAs.cons (du.same (Same.new hp)) DAs.nil)))
      · skip
        have sx : Same H' (upd H' x (exv x (erC A e) dd)) := Same.new hx
        refine ⟨_, rfl, rfl, _, rfl, if_false_of (decide_eq_false (fun z => by cases z)) ⟨_, rfl, x, dd, e, rfl, upd_same, sx.at hdd, fun H2 u s2 du => ?_⟩⟩
        exact kN e ea H2 u (k'.trans (Keep.of (sx.trans s2))) ((h'.same sx).same s2) du
    | liftAll tr =>
      obtain ⟨da, u0, u1, rfl, hda, e0, e1⟩ := deed2 hd
      cases e0.strI
      obtain ⟨ta, xs, rfl, hta, nta, hxs⟩ := e1.lstI
      refine ⟨_, rfl, da, _, 0, _, rfl, rfl, .inl hda, rfl, _, _, _, rfl, ?_⟩
      refine ⟨_, rfl, rfl, _, rfl, if_false_of (decide_eq_false fun z => absurd (V.str.inj z) (by decide +kernel)) ?_⟩
      refine ⟨_, rfl, rfl, _, rfl, if_false_of (decide_eq_false fun z => absurd (V.str.inj z) (by decide +kernel)) ?_⟩
      refine ⟨_, rfl, rfl, _, rfl, if_false_of (decide_eq_false fun z => absurd (V.str.inj z) (by decide +kernel)) ?_⟩
      refine ⟨_, rfl, rfl, _, rfl, if_true_of (decide_eq_true rfl) ?_⟩
      refine ⟨_, rfl, sh_at h ⟨_, rfl, da, _, 1, _, rfl, rfl, .inl hda, rfl, ?_⟩⟩
      refine ⟨a, sl, ll, ta, xs, pre, st, log, tr, rfl, hta, nta, lifts_Tp hxs, ⟨h, ok, hf, hs, fun t s' ea H' u k' h' du => ?_, fun e ea H' dd k' nd hdd h' => ⟨_, dd, rfl, rfl, (er_k TE e).ex, fun x hx => ?_⟩⟩⟩
      · skip
        refine ⟨_, rfl, rfl, _, rfl, if_true_of (decide_eq_true rfl) ⟨_, rfl, fit' (by show 2 ≤ 1000000; decide), fun p hp => ?_⟩⟩
        exact kY t s' ea _ _ (k'.trans (Keep.new hp)) (h'.same (Same.new hp)) (DA.tup upd_same (DAs.cons DA.str (DAs.cons (du.same (Same.new hp)) DAs.nil)))
      · skip
        have sx : Same H' (upd H' x (exv x (erC A e) dd)) := Same.new hx
        refine ⟨_, rfl, rfl, _, rfl, if_false_of (decide_eq_false (fun z => by cases z)) ⟨_, rfl, x, dd, e, rfl, upd_same, sx.at hdd, fun H2 u s2 du => ?_⟩⟩
        exact kN e ea H2 u (k'.trans (Keep.of (sx.trans s2))) ((h'.same sx).same s2) du
    | setL l =>
      obtain ⟨da, u0, u1, rfl, hda, e0, e1⟩ := deed2 hd
      cases e0.strI
      cases e1.intI
      refine ⟨_, rfl, da, _, 0, _, rfl, rfl, .inl hda, rfl, _, _, _, rfl, ?_⟩
      refine ⟨_, rfl, rfl, _, rfl, if_false_of (decide_eq_false fun z => absurd (V.str.inj z) (by decide +kernel)) ?_⟩
      refine ⟨_, rfl, rfl, _, rfl, if_false_of (decide_eq_false fun z => absurd (V.str.inj z) (by decide +kernel)) ?_⟩
      refine ⟨_, rfl, rfl, _, rfl, if_false_of (decide_eq_false fun z => absurd (V.str.inj z) (by decide +kernel)) ?_⟩
      refine ⟨_, rfl, rfl, _, rfl, if_false_of (decide_eq_false fun z => absurd (V.str.inj z) (by decide +kernel)) ?_⟩
      refine ⟨_, rfl, sh_at h ⟨_, rfl, da, _, 1, _, rfl, rfl, .inl hda, rfl, ?_⟩⟩
      refine ⟨a, sl, ll, pre, st, log, l, rfl, ⟨h, ok, hf, hs, fun t s' ea H' u k' h' du => ?_, fun e ea => by cases ea⟩⟩
      refine ⟨_, rfl, rfl, _, rfl, if_true_of (decide_eq_true rfl) ⟨_, rfl, fit' (by show 2 ≤ 1000000; decide), fun p hp => ?_⟩⟩
      exact kY t s' ea _ _ (k'.trans (Keep.new hp)) (h'.same (Same.new hp)) (DA.tup upd_same (DAs.cons DA.str (DAs.cons (du.same (Same.new hp)) DAs.nil)))
end
end Tw
set_option Elab.async false
set_option linter.all false
set_option maxRecDepth 100000
set_option maxHeartbeats 4000000
/-! same: equal data is found equal -/
namespace Tw
open PySem PySem.Spec PyProof.Rows L2
/-- data without bools and dicts, at most n deep, of known length -/
def Sm : Nat → PyData → Prop
  | _, .none => True
  | _, .int _ => True
  | _, .str _ => True
  | n + 1, .list ds => ds.length ≤ 100000 ∧ ∀ d ∈ ds, Sm n d
  | n + 1, .tuple ds => ds.length ≤ 100000 ∧ ∀ d ∈ ds, Sm n d
  | _, _ => False
theorem Sm.non {n : Nat} : Sm n .none := by cases n <;> exact True.intro
theorem Sm.int {n : Nat} {i : Int} : Sm n (.int i) := by cases n <;> exact True.intro
theorem Sm.str {n : Nat} {s : Str} : Sm n (.str s) := by cases n <;> exact True.intro
theorem Sm.lst {n : Nat} {ds : List PyData} (l : ds.length ≤ 100000) (h : ∀ d ∈ ds, Sm n d) : Sm (n + 1) (.list ds) := ⟨l, h⟩
theorem Sm.tup {n : Nat} {ds : List PyData} (l : ds.length ≤ 100000) (h : ∀ d ∈ ds, Sm n d) : Sm (n + 1) (.tuple ds) := ⟨l, h⟩
def tyN : PyData → String
  | .none => "NoneType"
  | .bool _ => "bool"
  | .int _ => "int"
  | .str _ => "str"
  | .list _ => "list"
  | .tuple _ => "tuple"
  | .dict _ => "dict"
def spSame (n : Nat) : Sp := fun vs H Q _ => ∃ (x y : V) (d : PyData), vs = [x, y] ∧ DA Bt H d x ∧ DA Bt H d y ∧ Sm n d ∧ ∀ H', Same H H' → Q (.bl true) H'
section
variable {K : PySem.W.Frag} {H : Hp} {d : PyData} {v : V}
theorem tyx {M : Addr → Prop} : ∀ {d : PyData} {v : V}, DA M H d v → TyX K H v (.type (tyN d))
  | .none, v, h => by
    cases h.nonI
    exact .base .non
  | .bool b, v, h => by
    unfold DA at h
    subst h
    exact .base (.bl b)
  | .int i, v, h => by
    cases h.intI
    exact .base (.int i)
  | .str s, v, h => by
    cases h.strI
    exact .base (.str s)
  | .list ds, v, h => by
    obtain ⟨a, xs, rfl, e, _⟩ := h.lstI
    exact .base (.lst e)
  | .tuple ds, v, h => by
    obtain ⟨a, xs, rfl, e, _⟩ := h.tupI
    exact .base (.tup e)
  | .dict _, v, h => by
    unfold DA at h
    exact h.elim
theorem any2 {t c1 c2 : Value} {b1 b2 : Bool} (h1 : PySem.W.kitOne K t c1 = some b1) (h2 : PySem.W.kitOne K t c2 = some b2) : PySem.W.kitAny K t [c1, c2] = some (b1 || b2) := by
  simp only [PySem.W.kitAny, h1, h2]
  cases b1 <;> cases b2 <;> rfl
end
theorem q_true {Q : VK} {H : Hp} {p : Prop} [Decidable p] (hp : p) (q : Q (.bl true) H) : Q (.bl (decide p)) H := by
  rw [decide_eq_true hp]
  exact q
section
variable {P : Program} {w : World} {K : PySem.W.Frag} {mg : Str → Option Value} {base : Heap} {A : Ad}
theorem sc_same : FnScope ["_law_found", "_law_due", "_law_a", "_law_b"] ["_law_found", "_law_due"] (defScope s_same) := ⟨rfl, rfl, rfl, by decide +kernel, rfl, by decide +kernel, by decide +kernel⟩
theorem ok_same0 {f : Addr} {fd : FuncData} (F : Fun K "_law_same" "_law_same" s_same f fd) (T : TxG K mg A) : FnOk P w K mg base CX0 1 f fd ["_law_found", "_law_due"] (spSame 0) := by
  refine F.ok sc_same (fun vs H Q E h => ?_) (fun cdv A' outer s H vs Q E hr h => ?_)
  · obtain ⟨x, y, d, rfl, _⟩ := h
    rfl
  · obtain ⟨x, y, d, rfl, dx, dy, sm, k⟩ := h
    refine ⟨_, pss_cons (ps_if (pt_val (pe_callB call_isiT (by rfl) T.z_isinstance PyProof.Rows.boot_isinstance (pa_cons (pv 1) (pa_cons (pe_tup (pa_cons (pe_bltn (v := .ty "list") (by rfl) T.z_list PyProof.Rows.boot_list rfl) (pa_cons (pe_bltn (v := .ty "tuple") (by rfl) T.z_tuple PyProof.Rows.boot_tuple rfl) pa_nil))) pa_nil)))) pss_never pss_nil) <|
      pss_cons (ps_if (PW.pt (pw_or (pt_cmpR op_isN (pv 1) pe_non (nomark _)) (pw_or1 (pt_val (pe_callB call_isiT (by rfl) T.z_isinstance PyProof.Rows.boot_isinstance (pa_cons (pv 1) (pa_cons (pe_tup (pa_cons (pe_bltn (v := .ty "bool") (by rfl) T.z_bool PyProof.Rows.boot_bool rfl) (pa_cons (pe_bltn (v := .ty "str") (by rfl) T.z_str PyProof.Rows.boot_str rfl) pa_nil))) pa_nil))))))) (pss_one (ps_ret (pe_and (pe_cmpR op_eq (pv 0) (pv 1) (nomark _)) (pe_and (pe_cmpR op_eq (pe_callB call_isi (by rfl) T.z_isinstance PyProof.Rows.boot_isinstance (pa_cons (pv 0) (pa_cons (pe_bltn (v := .ty "bool") (by rfl) T.z_bool PyProof.Rows.boot_bool rfl) pa_nil))) (pe_callB call_isi (by rfl) T.z_isinstance PyProof.Rows.boot_isinstance (pa_cons (pv 1) (pa_cons (pe_bltn (v := .ty "bool") (by rfl) T.z_bool PyProof.Rows.boot_bool rfl) pa_nil))) (nomark _)) (pe_one (pe_cmpR op_eq (pe_cmpR op_isN (pv 0) pe_non (nomark _)) (pe_cmpR op_isN (pv 1) pe_non (nomark _)) (nomark _))))))) pss_nil) <|
      pss_one (ps_ret (pe_and (pe_callB call_isi (by rfl) T.z_isinstance PyProof.Rows.boot_isinstance (pa_cons (pv 0) (pa_cons (pe_bltn (v := .ty "int") (by rfl) T.z_int PyProof.Rows.boot_int rfl) pa_nil))) (pe_and (pe_not (pe_callB call_isi (by rfl) T.z_isinstance PyProof.Rows.boot_isinstance (pa_cons (pv 0) (pa_cons (pe_bltn (v := .ty "bool") (by rfl) T.z_bool PyProof.Rows.boot_bool rfl) pa_nil)))) (pe_one (pe_cmpR op_eq (pv 0) (pv 1) (nomark _)))))), ?_⟩
    cases d with
    | none =>
      cases dx.nonI
      cases dy.nonI
      refine ⟨_, rfl, fit' (by show 2 ≤ 1000000; decide), fun t ht => ⟨_, t, _, _, _, _, rfl, upd_same, .cons (.ty _) (.cons (.ty _) .nil), tyx (M := Bt) (DA.non : DA Bt _ .none _), any2 (kit_ty (show kitB "NoneType" "list" = some false by decide +kernel)) (kit_ty (show kitB "NoneType" "tuple" = some false by decide +kernel)), _, rfl, if_false_of rfl ?_⟩⟩
      refine ⟨_, rfl, rfl, _, rfl, if_true_of (decide_eq_true rfl) (if_true_of rfl ?_)⟩
      refine ⟨_, rfl, _, rfl, rfl, _, rfl, if_true_of (decide_eq_true rfl) ?_⟩
      refine ⟨_, rfl, _, _, _, _, _, rfl, .ty _, tyx (M := Bt) (DA.non : DA Bt _ .none _), (kit_ty (show kitB "NoneType" "bool" = some false by decide +kernel)), _, rfl, _, _, _, _, _, rfl, .ty _, tyx (M := Bt) (DA.non : DA Bt _ .none _), (kit_ty (show kitB "NoneType" "bool" = some false by decide +kernel)), rfl, _, rfl, if_true_of (decide_eq_true rfl) ?_⟩
      refine ⟨_, rfl, rfl, _, rfl, rfl, rfl, q_true rfl ?_⟩
      exact k _ (Same.new ht)
    | str z =>
      cases dx.strI
      cases dy.strI
      refine ⟨_, rfl, fit' (by show 2 ≤ 1000000; decide), fun t ht => ⟨_, t, _, _, _, _, rfl, upd_same, .cons (.ty _) (.cons (.ty _) .nil), tyx (M := Bt) (DA.str : DA Bt _ (.str z) _), any2 (kit_ty (show kitB "str" "list" = some false by decide +kernel)) (kit_ty (show kitB "str" "tuple" = some false by decide +kernel)), _, rfl, if_false_of rfl ?_⟩⟩
      refine ⟨_, rfl, rfl, _, rfl, if_false_of (decide_eq_false fun z => by cases z) ?_⟩
      refine ⟨_, rfl, fit' (by show 2 ≤ 1000000; decide), fun t2 ht2 => ⟨_, t2, _, _, _, _, rfl, upd_same, .cons (.ty _) (.cons (.ty _) .nil), tyx (M := Bt) (DA.str : DA Bt _ (.str z) _), any2 (kit_ty (show kitB "str" "bool" = some false by decide +kernel)) (kit_ty (show kitB "str" "str" = some true by decide +kernel)), _, rfl, if_true_of rfl ?_⟩⟩
      refine ⟨_, rfl, _, rfl, rfl, _, rfl, if_true_of (decide_eq_true rfl) ?_⟩
      refine ⟨_, rfl, _, _, _, _, _, rfl, .ty _, tyx (M := Bt) (DA.str : DA Bt _ (.str z) _), (kit_ty (show kitB "str" "bool" = some false by decide +kernel)), _, rfl, _, _, _, _, _, rfl, .ty _, tyx (M := Bt) (DA.str : DA Bt _ (.str z) _), (kit_ty (show kitB "str" "bool" = some false by decide +kernel)), rfl, _, rfl, if_true_of (decide_eq_true rfl) ?_⟩
      refine ⟨_, rfl, rfl, _, rfl, rfl, rfl, q_true rfl ?_⟩
      exact k _ ((Same.new ht).trans (Same.new ht2))
    | int z =>
      cases dx.intI
      cases dy.intI
      refine ⟨_, rfl, fit' (by show 2 ≤ 1000000; decide), fun t ht => ⟨_, t, _, _, _, _, rfl, upd_same, .cons (.ty _) (.cons (.ty _) .nil), tyx (M := Bt) (DA.int : DA Bt _ (.int z) _), any2 (kit_ty (show kitB "int" "list" = some false by decide +kernel)) (kit_ty (show kitB "int" "tuple" = some false by decide +kernel)), _, rfl, if_false_of rfl ?_⟩⟩
      refine ⟨_, rfl, rfl, _, rfl, if_false_of (decide_eq_false fun z => by cases z) ?_⟩
      refine ⟨_, rfl, fit' (by show 2 ≤ 1000000; decide), fun t2 ht2 => ⟨_, t2, _, _, _, _, rfl, upd_same, .cons (.ty _) (.cons (.ty _) .nil), tyx (M := Bt) (DA.int : DA Bt _ (.int z) _), any2 (kit_ty (show kitB "int" "bool" = some false by decide +kernel)) (kit_ty (show kitB "int" "str" = some false by decide +kernel)), _, rfl, if_false_of rfl ?_⟩⟩
      refine ⟨_, rfl, _, _, _, _, _, rfl, .ty _, tyx (M := Bt) (DA.int : DA Bt _ (.int z) _), (kit_ty (show kitB "int" "int" = some true by decide +kernel)), _, rfl, if_true_of rfl ?_⟩
      refine ⟨_, rfl, _, _, _, _, _, rfl, .ty _, tyx (M := Bt) (DA.int : DA Bt _ (.int z) _), (kit_ty (show kitB "int" "bool" = some false by decide +kernel)), _, rfl, _, rfl, if_true_of rfl ?_⟩
      refine ⟨_, rfl, _, rfl, rfl, q_true rfl ?_⟩
      exact k _ ((Same.new ht).trans (Same.new ht2))
    | bool b => exact (show False from sm).elim
    | list ds => exact (show False from sm).elim
    | tuple ds => exact (show False from sm).elim
    | dict kv => exact (show False from sm).elim
theorem ok_sameS {f : Addr} {fd : FuncData} {n lv : Nat} (F : Fun K "_law_same" "_law_same" s_same f fd) (T : TxG K mg A) (G : Cal P w K mg base CX0 lv A.same ["_law_found", "_law_due"] (spSame n)) : FnOk P w K mg base CX0 (lv + 1) f fd ["_law_found", "_law_due"] (spSame (n + 1)) := by
  refine F.ok sc_same (fun vs H Q E h => ?_) (fun cdv A' outer s H vs Q E hr h => ?_)
  · obtain ⟨x, y, d, rfl, _⟩ := h
    rfl
  · obtain ⟨x, y, d, rfl, dx, dy, sm, k⟩ := h
    refine ⟨_, pss_cons (ps_if (pt_val (pe_callB call_isiT (by rfl) T.z_isinstance PyProof.Rows.boot_isinstance (pa_cons (pv 1) (pa_cons (pe_tup (pa_cons (pe_bltn (v := .ty "list") (by rfl) T.z_list PyProof.Rows.boot_list rfl) (pa_cons (pe_bltn (v := .ty "tuple") (by rfl) T.z_tuple PyProof.Rows.boot_tuple rfl) pa_nil))) pa_nil)))) (pss_cons (ps_if (PW.pt (pw_or (pt_cmpR op_ne (pe_callB call_isi (by rfl) T.z_isinstance PyProof.Rows.boot_isinstance (pa_cons (pv 0) (pa_cons (pe_bltn (v := .ty "list") (by rfl) T.z_list PyProof.Rows.boot_list rfl) pa_nil))) (pe_callB call_isi (by rfl) T.z_isinstance PyProof.Rows.boot_isinstance (pa_cons (pv 1) (pa_cons (pe_bltn (v := .ty "list") (by rfl) T.z_list PyProof.Rows.boot_list rfl) pa_nil))) (nomark _)) (pw_or1 (pt_cmpR op_ne (pe_callB call_isi (by rfl) T.z_isinstance PyProof.Rows.boot_isinstance (pa_cons (pv 0) (pa_cons (pe_bltn (v := .ty "tuple") (by rfl) T.z_tuple PyProof.Rows.boot_tuple rfl) pa_nil))) (pe_callB call_isi (by rfl) T.z_isinstance PyProof.Rows.boot_isinstance (pa_cons (pv 1) (pa_cons (pe_bltn (v := .ty "tuple") (by rfl) T.z_tuple PyProof.Rows.boot_tuple rfl) pa_nil))) (nomark _))))) pss_never pss_nil) <|
        pss_one (ps_ret (pe_and (pe_cmpR op_eq (pe_len T.z_len (pv 0)) (pe_len T.z_len (pv 1)) (nomark _)) (pe_one (pe_callB (cr_all rfl) (by rfl) T.z_all PyProof.Rows.boot_all (pa_cons (pe_lc (own := [("_law_a", 2), ("_law_b", 3)]) (g := gTup K 2 (gCons (gName 2) (gCons (gName 3) gNil))) (tt := tYes) (te := tFn (spSame n) (tCons (tVar 2) (tCons (tVar 3) tNil))) rfl sc_same.nd
          (RZ.pi_zipA (by rfl) T.z_zip (pa_cons (pv 0) (pa_cons (pv 1) pa_nil))) (blkOk_by (N := ["_law_found", "_law_due", "_law_a", "_law_b"]) (sc := defScope s_same) (by decide +kernel))
          (fun _ _ _ _ _ => pg_tup rfl (pgs_cons (pg_name (i := 2) sc_same.nd rfl (Or.inl rfl)) (pgs_cons (pg_name (i := 3) sc_same.nd rfl (Or.inl rfl)) pgs_nil))) (fun _ _ _ _ _ => pts_nil) (fun _ _ _ _ _ => pe_fn G hr T.g_same (pa_cons (pv 2) (pa_cons (pv 3) pa_nil)))) pa_nil)))))) pss_nil) <|
      pss_cons (ps_if (PW.pt (pw_or (pt_cmpR op_isN (pv 1) pe_non (nomark _)) (pw_or1 (pt_val (pe_callB call_isiT (by rfl) T.z_isinstance PyProof.Rows.boot_isinstance (pa_cons (pv 1) (pa_cons (pe_tup (pa_cons (pe_bltn (v := .ty "bool") (by rfl) T.z_bool PyProof.Rows.boot_bool rfl) (pa_cons (pe_bltn (v := .ty "str") (by rfl) T.z_str PyProof.Rows.boot_str rfl) pa_nil))) pa_nil))))))) (pss_one (ps_ret (pe_and (pe_cmpR op_eq (pv 0) (pv 1) (nomark _)) (pe_and (pe_cmpR op_eq (pe_callB call_isi (by rfl) T.z_isinstance PyProof.Rows.boot_isinstance (pa_cons (pv 0) (pa_cons (pe_bltn (v := .ty "bool") (by rfl) T.z_bool PyProof.Rows.boot_bool rfl) pa_nil))) (pe_callB call_isi (by rfl) T.z_isinstance PyProof.Rows.boot_isinstance (pa_cons (pv 1) (pa_cons (pe_bltn (v := .ty "bool") (by rfl) T.z_bool PyProof.Rows.boot_bool rfl) pa_nil))) (nomark _)) (pe_one (pe_cmpR op_eq (pe_cmpR op_isN (pv 0) pe_non (nomark _)) (pe_cmpR op_isN (pv 1) pe_non (nomark _)) (nomark _))))))) pss_nil) <|
      pss_one (ps_ret (pe_and (pe_callB call_isi (by rfl) T.z_isinstance PyProof.Rows.boot_isinstance (pa_cons (pv 0) (pa_cons (pe_bltn (v := .ty "int") (by rfl) T.z_int PyProof.Rows.boot_int rfl) pa_nil))) (pe_and (pe_not (pe_callB call_isi (by rfl) T.z_isinstance PyProof.Rows.boot_isinstance (pa_cons (pv 0) (pa_cons (pe_bltn (v := .ty "bool") (by rfl) T.z_bool PyProof.Rows.boot_bool rfl) pa_nil)))) (pe_one (pe_cmpR op_eq (pv 0) (pv 1) (nomark _)))))), ?_⟩
    cases d with
    | none =>
      cases dx.nonI
      cases dy.nonI
      refine ⟨_, rfl, fit' (by show 2 ≤ 1000000; decide), fun t ht => ⟨_, t, _, _, _, _, rfl, upd_same, .cons (.ty _) (.cons (.ty _) .nil), tyx (M := Bt) (DA.non : DA Bt _ .none _), any2 (kit_ty (show kitB "NoneType" "list" = some false by decide +kernel)) (kit_ty (show kitB "NoneType" "tuple" = some false by decide +kernel)), _, rfl, if_false_of rfl ?_⟩⟩
      refine ⟨_, rfl, rfl, _, rfl, if_true_of (decide_eq_true rfl) (if_true_of rfl ?_)⟩
      refine ⟨_, rfl, _, rfl, rfl, _, rfl, if_true_of (decide_eq_true rfl) ?_⟩
      refine ⟨_, rfl, _, _, _, _, _, rfl, .ty _, tyx (M := Bt) (DA.non : DA Bt _ .none _), (kit_ty (show kitB "NoneType" "bool" = some false by decide +kernel)), _, rfl, _, _, _, _, _, rfl, .ty _, tyx (M := Bt) (DA.non : DA Bt _ .none _), (kit_ty (show kitB "NoneType" "bool" = some false by decide +kernel)), rfl, _, rfl, if_true_of (decide_eq_true rfl) ?_⟩
      refine ⟨_, rfl, rfl, _, rfl, rfl, rfl, q_true rfl ?_⟩
      exact k _ (Same.new ht)
    | str z =>
      cases dx.strI
      cases dy.strI
      refine ⟨_, rfl, fit' (by show 2 ≤ 1000000; decide), fun t ht => ⟨_, t, _, _, _, _, rfl, upd_same, .cons (.ty _) (.cons (.ty _) .nil), tyx (M := Bt) (DA.str : DA Bt _ (.str z) _), any2 (kit_ty (show kitB "str" "list" = some false by decide +kernel)) (kit_ty (show kitB "str" "tuple" = some false by decide +kernel)), _, rfl, if_false_of rfl ?_⟩⟩
      refine ⟨_, rfl, rfl, _, rfl, if_false_of (decide_eq_false fun z => by cases z) ?_⟩
      refine ⟨_, rfl, fit' (by show 2 ≤ 1000000; decide), fun t2 ht2 => ⟨_, t2, _, _, _, _, rfl, upd_same, .cons (.ty _) (.cons (.ty _) .nil), tyx (M := Bt) (DA.str : DA Bt _ (.str z) _), any2 (kit_ty (show kitB "str" "bool" = some false by decide +kernel)) (kit_ty (show kitB "str" "str" = some true by decide +kernel)), _, rfl, if_true_of rfl ?_⟩⟩
      refine ⟨_, rfl, _, rfl, rfl, _, rfl, if_true_of (decide_eq_true rfl) ?_⟩
      refine ⟨_, rfl, _, _, _, _, _, rfl, .ty _, tyx (M := Bt) (DA.str : DA Bt _ (.str z) _), (kit_ty (show kitB "str" "bool" = some false by decide +kernel)), _, rfl, _, _, _, _, _, rfl, .ty _, tyx (M := Bt) (DA.str : DA Bt _ (.str z) _), (kit_ty (show kitB "str" "bool" = some false by decide +kernel)), rfl, _, rfl, if_true_of (decide_eq_true rfl) ?_⟩
      refine ⟨_, rfl, rfl, _, rfl, rfl, rfl, q_true rfl ?_⟩
      exact k _ ((Same.new ht).trans (Same.new ht2))
    | int z =>
      cases dx.intI
      cases dy.intI
      refine ⟨_, rfl, fit' (by show 2 ≤ 1000000; decide), fun t ht => ⟨_, t, _, _, _, _, rfl, upd_same, .cons (.ty _) (.cons (.ty _) .nil), tyx (M := Bt) (DA.int : DA Bt _ (.int z) _), any2 (kit_ty (show kitB "int" "list" = some false by decide +kernel)) (kit_ty (show kitB "int" "tuple" = some false by decide +kernel)), _, rfl, if_false_of rfl ?_⟩⟩
      refine ⟨_, rfl, rfl, _, rfl, if_false_of (decide_eq_false fun z => by cases z) ?_⟩
      refine ⟨_, rfl, fit' (by show 2 ≤ 1000000; decide), fun t2 ht2 => ⟨_, t2, _, _, _, _, rfl, upd_same, .cons (.ty _) (.cons (.ty _) .nil), tyx (M := Bt) (DA.int : DA Bt _ (.int z) _), any2 (kit_ty (show kitB "int" "bool" = some false by decide +kernel)) (kit_ty (show kitB "int" "str" = some false by decide +kernel)), _, rfl, if_false_of rfl ?_⟩⟩
      refine ⟨_, rfl, _, _, _, _, _, rfl, .ty _, tyx (M := Bt) (DA.int : DA Bt _ (.int z) _), (kit_ty (show kitB "int" "int" = some true by decide +kernel)), _, rfl, if_true_of rfl ?_⟩
      refine ⟨_, rfl, _, _, _, _, _, rfl, .ty _, tyx (M := Bt) (DA.int : DA Bt _ (.int z) _), (kit_ty (show kitB "int" "bool" = some false by decide +kernel)), _, rfl, _, rfl, if_true_of rfl ?_⟩
      refine ⟨_, rfl, _, rfl, rfl, q_true rfl ?_⟩
      exact k _ ((Same.new ht).trans (Same.new ht2))
    | list ds =>
      obtain ⟨hlen, hall⟩ := sm
      obtain ⟨a, xs, ev1, ea, _, da⟩ := dx.lstI
      obtain ⟨b, ys, ev2, eb, _, db⟩ := dy.lstI
      subst ev1 ev2
      refine ⟨_, rfl, fit' (by show 2 ≤ 1000000; decide), fun t ht => ?_⟩
      have s1 : Same H (upd H t (.tup [.ty "list", .ty "tuple"])) := Same.new ht
      have ey0 := dy.same s1
      refine ⟨_, t, _, _, _, _, rfl, upd_same, .cons (.ty _) (.cons (.ty _) .nil), tyx (M := Bt) (ey0), any2 (kit_ty (show kitB "list" "list" = some true by decide +kernel)) (kit_ty (show kitB "list" "tuple" = some false by decide +kernel)), _, rfl, if_true_of rfl ?_⟩
      generalize upd H t (.tup [.ty "list", .ty "tuple"]) = H1 at s1 ey0
      have ex1 := dx.same s1
      have ey1 := ey0
      refine ⟨_, rfl, _, _, _, _, _, rfl, .ty _, tyx (M := Bt) (ex1), (kit_ty (show kitB "list" "list" = some true by decide +kernel)), _, rfl, _, _, _, _, _, rfl, .ty _, tyx (M := Bt) (ey1), (kit_ty (show kitB "list" "list" = some true by decide +kernel)), rfl, _, rfl, if_false_of (by rfl) ?_⟩
      refine ⟨_, rfl, _, _, _, _, _, rfl, .ty _, tyx (M := Bt) (ex1), (kit_ty (show kitB "list" "tuple" = some false by decide +kernel)), _, rfl, _, _, _, _, _, rfl, .ty _, tyx (M := Bt) (ey1), (kit_ty (show kitB "list" "tuple" = some false by decide +kernel)), rfl, _, rfl, if_false_of (by rfl) ?_⟩
      have lx := da.length
      have ly := db.length
      refine ⟨_, rfl, a, xs, rfl, .inr (s1.at ea), _, rfl, b, ys, rfl, .inr (s1.at eb), rfl, _, rfl, if_true_of (decide_eq_true (by rw [lx, ly])) ?_⟩
      refine ⟨_, rfl, _, rfl, a, b, xs, ys, rfl, .inl ⟨SqL.of (s1.at ea), SqL.of (s1.at eb), fun D hD => lc_zipL (K := K) (a := a) (b := b) (lx.trans ly.symm) (fun i H' => Same H1 H' ∧ H' D = some (.lst (List.replicate i (V.bl true)))) ⟨Same.new hD, upd_same⟩ (fun i H' z => ⟨SqL.of (z.1.at (s1.at ea)), SqL.of (z.1.at (s1.at eb))⟩) ?_ ?_⟩⟩
      · rintro i x y T0 H2 hx hy ⟨s2, hd⟩ hT
        obtain ⟨d, hd1, dx1⟩ := da.getV hx
        obtain ⟨d', hd2, dy1⟩ := db.getV hy
        rw [hd1] at hd2
        cases hd2
        have s3 : Same H2 (upd H2 T0 (.tup [x, y])) := Same.new hT
        have s03 := (s1.trans s2).trans s3
        have hil := (List.getElem?_eq_some_iff.mp hd1).1
        refine ⟨T0, _, rfl, SqT.of upd_same, rfl, _, _, rfl, _, _, rfl, rfl, rfl, _, rfl, _, rfl, x, y, d, rfl, dx1.same s03, dy1.same s03, hall d (List.mem_of_getElem? hd1), fun H4 s4 => ?_⟩
        refine ⟨_, s4.at (s3.at hd), ?_, ((s2.trans s3).trans s4).put hD, ?_⟩
        · rw [List.length_replicate]
          exact fit (by omega)
        · rw [upd_same, List.replicate_succ']
      · rintro H2 ⟨s2, hd⟩
        refine ⟨D, List.replicate xs.length true, rfl, ?_, ?_⟩
        · rw [List.map_replicate]
          exact SqL.of hd
        · have e : (List.replicate xs.length true).all id = true := by simp
          rw [e]
          exact k _ (s1.trans s2)
    | tuple ds =>
      obtain ⟨hlen, hall⟩ := sm
      obtain ⟨a, xs, ev1, ea, da⟩ := dx.tupI
      obtain ⟨b, ys, ev2, eb, db⟩ := dy.tupI
      subst ev1 ev2
      refine ⟨_, rfl, fit' (by show 2 ≤ 1000000; decide), fun t ht => ?_⟩
      have s1 : Same H (upd H t (.tup [.ty "list", .ty "tuple"])) := Same.new ht
      have ey0 := dy.same s1
      refine ⟨_, t, _, _, _, _, rfl, upd_same, .cons (.ty _) (.cons (.ty _) .nil), tyx (M := Bt) (ey0), any2 (kit_ty (show kitB "tuple" "list" = some false by decide +kernel)) (kit_ty (show kitB "tuple" "tuple" = some true by decide +kernel)), _, rfl, if_true_of rfl ?_⟩
      generalize upd H t (.tup [.ty "list", .ty "tuple"]) = H1 at s1 ey0
      have ex1 := dx.same s1
      have ey1 := ey0
      refine ⟨_, rfl, _, _, _, _, _, rfl, .ty _, tyx (M := Bt) (ex1), (kit_ty (show kitB "tuple" "list" = some false by decide +kernel)), _, rfl, _, _, _, _, _, rfl, .ty _, tyx (M := Bt) (ey1), (kit_ty (show kitB "tuple" "list" = some false by decide +kernel)), rfl, _, rfl, if_false_of (by rfl) ?_⟩
      refine ⟨_, rfl, _, _, _, _, _, rfl, .ty _, tyx (M := Bt) (ex1), (kit_ty (show kitB "tuple" "tuple" = some true by decide +kernel)), _, rfl, _, _, _, _, _, rfl, .ty _, tyx (M := Bt) (ey1), (kit_ty (show kitB "tuple" "tuple" = some true by decide +kernel)), rfl, _, rfl, if_false_of (by rfl) ?_⟩
      have lx := da.length
      have ly := db.length
      refine ⟨_, rfl, a, xs, rfl, .inl (s1.at ea), _, rfl, b, ys, rfl, .inl (s1.at eb), rfl, _, rfl, if_true_of (decide_eq_true (by rw [lx, ly])) ?_⟩
      refine ⟨_, rfl, _, rfl, a, b, xs, ys, rfl, .inr ⟨SqT.of (s1.at ea), SqT.of (s1.at eb), fun D hD => lc_zipT (K := K) (a := a) (b := b) (lx.trans ly.symm) (fun i H' => Same H1 H' ∧ H' D = some (.lst (List.replicate i (V.bl true)))) ⟨Same.new hD, upd_same⟩ (fun i H' z => ⟨SqT.of (z.1.at (s1.at ea)), SqT.of (z.1.at (s1.at eb))⟩) ?_ ?_⟩⟩
      · rintro i x y T0 H2 hx hy ⟨s2, hd⟩ hT
        obtain ⟨d, hd1, dx1⟩ := da.getV hx
        obtain ⟨d', hd2, dy1⟩ := db.getV hy
        rw [hd1] at hd2
        cases hd2
        have s3 : Same H2 (upd H2 T0 (.tup [x, y])) := Same.new hT
        have s03 := (s1.trans s2).trans s3
        have hil := (List.getElem?_eq_some_iff.mp hd1).1
        refine ⟨T0, _, rfl, SqT.of upd_same, rfl, _, _, rfl, _, _, rfl, rfl, rfl, _, rfl, _, rfl, x, y, d, rfl, dx1.same s03, dy1.same s03, hall d (List.mem_of_getElem? hd1), fun H4 s4 => ?_⟩
        refine ⟨_, s4.at (s3.at hd), ?_, ((s2.trans s3).trans s4).put hD, ?_⟩
        · rw [List.length_replicate]
          exact fit (by omega)
        · rw [upd_same, List.replicate_succ']
      · rintro H2 ⟨s2, hd⟩
        refine ⟨D, List.replicate xs.length true, rfl, ?_, ?_⟩
        · rw [List.map_replicate]
          exact SqL.of hd
        · have e : (List.replicate xs.length true).all id = true := by simp
          rw [e]
          exact k _ (s1.trans s2)
    | bool b => exact (show False from sm).elim
    | dict kv => exact (show False from sm).elim
end
end Tw
set_option Elab.async false
set_option linter.all false
set_option maxRecDepth 100000
set_option maxHeartbeats 4000000
/-! expect: the law's own states stay well formed -/
namespace Tw
open PySem PySem.Spec PyProof.Rows L2
abbrev LsD (lim : Int) (ws L R : List Int) : PyData := .tuple [.int lim, pD L R, tI ws]
structure LsOk (lim : Int) (ws L R : List Int) (m : Nat) : Prop where
  lo : 1 ≤ lim
  hi : lim ≤ 1000000000
  iL : InW ws L
  iR : InW ws R
  lw : ws.length ≤ m
  lp : L.length + R.length ≤ m
theorem LsOk.mono {lim : Int} {ws L R : List Int} {m n : Nat} (h : LsOk lim ws L R m) (l : m ≤ n) : LsOk lim ws L R n := ⟨h.lo, h.hi, h.iL, h.iR, Nat.le_trans h.lw l, Nat.le_trans h.lp l⟩
def DeedOk : Deed → Prop
  | .put w _ => 1 ≤ w ∧ w ≤ 1000000000
  | .putP w => 1 ≤ w ∧ w ≤ 1000000000
  | .setL l => 1 ≤ l ∧ l ≤ 1000000000
  | .liftAll t => t.length ≤ 1000
  | _ => True
theorem cut_ints (p : List Int) (lo hi : Option Int) : ∃ q : List Int, cutV (p.map V.int) lo hi = q.map V.int ∧ q.length ≤ p.length ∧ ∀ i ∈ q, i ∈ p := by
  unfold cutV
  rw [← List.map_drop, ← List.map_take]
  refine ⟨_, rfl, ?_, fun i hi => List.mem_of_mem_drop (List.mem_of_mem_take hi)⟩
  rw [List.length_take, List.length_drop]
  omega
theorem InW.put {ws p : List Int} (h : InW ws p) (w : Int) : InW (ws ++ [w]) p := fun i hi => by
  have := h i hi
  rw [List.length_append, List.length_singleton]
  exact ⟨this.1, by omega⟩
theorem InW.new {ws p : List Int} (h : InW ws p) (w : Int) : InW (ws ++ [w]) (p ++ [(ws.length : Int)]) := fun i hi => by
  rcases List.mem_append.mp hi with hi | hi
  · exact h.put w i hi
  · rw [List.mem_singleton.mp hi, List.length_append, List.length_singleton]
    omega
theorem eqv_tnil : ∀ ds : List PyData, PyData.eqv (.tuple ds) (.tuple []) = ds.isEmpty
  | [] => by simp [PyData.eqv, PyData.eqvAll]
  | d :: ds => by simp [PyData.eqv, PyData.eqvAll]
theorem lsD_I {M : Addr → Prop} {H : Hp} {lim : Int} {ws L R : List Int} {v : V} (h : DA M H (LsD lim ws L R) v) : ∃ na p wa, v = .ref na ∧ H na = some (.tup [.int lim, p, .ref wa]) ∧ DA M H (pD L R) p ∧ H wa = some (.tup (ws.map V.int)) := by
  obtain ⟨a, u, p, w, e, h1, d1, d2, d3⟩ := deed3 h
  obtain ⟨wa, rfl, hw⟩ := d3.unI
  cases d1.intI
  exact ⟨a, p, wa, e, h1, d2, hw⟩
theorem lsD_M {M : Addr → Prop} {H : Hp} {lim : Int} {ws L R : List Int} {a wa : Addr} {p : V} (h : H a = some (.tup [.int lim, p, .ref wa])) (hp : DA M H (pD L R) p) (hw : H wa = some (.tup (ws.map V.int))) : DA M H (LsD lim ws L R) (.ref a) :=
  DA.tup h (DAs.cons DA.int (DAs.cons hp (DAs.cons (DA.mkI hw) DAs.nil)))
theorem side_int (r : Bool) : (if decide (V.str (sd r) = V.str ("right" : Str)) = true then (1 : Int) else 0) = if r then 1 else 0 := by
  cases r
  · have e : decide (V.str (sd false) = V.str ("right" : Str)) = false := decide_eq_false fun z => absurd (V.str.inj z) (by decide +kernel)
    rw [e]
    try rfl
  · have e : decide (V.str (sd true) = V.str ("right" : Str)) = true := decide_eq_true rfl
    rw [e]
    try rfl
theorem lift_cut (x y z : V) : cutV [x, y, z] (some 1) (some 3) = [y, z] := rfl
def spExpect : Sp := fun vs H Q _ => ∃ (nw dv : V) (lim : Int) (ws L R : List Int) (m : Nat) (d : Deed), vs = [nw, dv] ∧ DA Tp H (LsD lim ws L R) nw ∧ LsOk lim ws L R m ∧ m ≤ 500 ∧ DA Bt H d.D dv ∧ DeedOk d ∧
  ∀ H' u x y lim' ws' L' R', Same H H' → H' u = some (.tup [x, y]) → DA Tp H' (LsD lim' ws' L' R') y → LsOk lim' ws' L' R' (m + 1) → Q (.ref u) H'
section
variable {P : Program} {w : World} {K : PySem.W.Frag} {mg : Str → Option Value} {base : Heap} {A : Ad}
theorem sc_expect : FnScope ["_law_now", "_law_deed_here", "_law_bulk", "_law_stacks", "_law_kilos", "_law_word", "_law_new", "_law_there", "_law_at", "_law_rest", "_law_tour", "_law_here", "_law_heft", "_law_way", "_law_count", "_law_part"] ["_law_now", "_law_deed_here"] (defScope s_expect) := ⟨rfl, rfl, rfl, by decide +kernel, rfl, by decide +kernel, by decide +kernel⟩
theorem ok_expect {f : Addr} {fd : FuncData} (F : Fun K "_law_expect" "_law_expect" s_expect f fd) (T : TxG K mg A) (G1 : Cal P w K mg base CX0 1 A.lweigh ["_law_crate", "_law_some"] spWeigh) (G2 : Cal P w K mg base CX0 1 A.hoisted ["_law_stacks", "_law_way", "_law_count"] spHoisted) : FnOk P w K mg base CX0 2 f fd ["_law_now", "_law_deed_here"] spExpect := by
  refine F.ok sc_expect (fun vs H Q E h => ?_) (fun cdv A' outer s H vs Q E hr h => ?_)
  · obtain ⟨nw, dv, lim, ws, L, R, m, d, rfl, _⟩ := h
    rfl
  · obtain ⟨nw, dv, lim, ws, L, R, m, d, rfl, hnw, ok, hm, hd, dok, k⟩ := h
    refine ⟨_, pss_cons (ps_asg (pv 0) (pg_tup rfl (pgs_cons (pg_name (i := 2) sc_expect.nd rfl (.inl rfl)) (pgs_cons (pg_name (i := 3) sc_expect.nd rfl (.inl rfl)) (pgs_cons (pg_name (i := 4) sc_expect.nd rfl (.inl rfl)) pgs_nil))))) <|
      pss_cons (ps_set (i := 5) sc_expect.nd rfl (.inl rfl) (pe_at (pv 1) pe_int)) <|
      pss_cons (ps_if (pt_cmpR op_eq (pv 5) pe_str (nomark _)) (pss_cons (ps_set (i := 6) sc_expect.nd rfl (.inl rfl) (pe_tup (pa_cons (pe_len T.z_len (pv 4)) pa_nil))) <|
          pss_cons (ps_set (i := 7) sc_expect.nd rfl (.inl rfl) (pe_ifExp (pt_cmpR op_eq (pe_at (pv 1) pe_int) pe_str (nomark _)) (pe_tup (pa_cons (pe_op op_catT' (pe_at (pv 3) pe_int) (pv 6)) (pa_cons (pe_at (pv 3) pe_int) pa_nil))) (pe_tup (pa_cons (pe_at (pv 3) pe_int) (pa_cons (pe_op op_catT' (pe_at (pv 3) pe_int) (pv 6)) pa_nil))))) <|
          pss_one (ps_ret (pe_tup (pa_cons (pe_tup (pa_cons pe_str (pa_cons (pe_len T.z_len (pv 4)) pa_nil))) (pa_cons (pe_tup (pa_cons (pv 2) (pa_cons (pv 7) (pa_cons (pe_op op_catT' (pv 4) (pe_tup (pa_cons (pe_at (pv 1) pe_int) pa_nil))) pa_nil)))) pa_nil))))) pss_nil) <|
      pss_cons (ps_if (pt_cmpR op_eq (pv 5) pe_str (nomark _)) (pss_cons (ps_set (i := 8) sc_expect.nd rfl (.inl rfl) (pe_intB T.z_int (pe_cmpR op_eq (pe_at (pv 1) pe_int) pe_str (nomark _)))) <|
          pss_cons (ps_if (pt_cmpR (op_eqD hr.units) (pe_at (pv 3) (pv 8)) (pe_tup pa_nil) (nomark _)) (pss_one (ps_ret (pe_tup (pa_cons (pe_tup (pa_cons pe_str (pa_cons (pe_at (pv 1) pe_int) pa_nil))) (pa_cons (pv 0) pa_nil))))) pss_nil) <|
          pss_cons (ps_set (i := 9) sc_expect.nd rfl (.inl rfl) (pe_slice sl_tup' (pe_at (pv 3) (pv 8)) po_none (po_some (pe_un un_neg pe_int)))) <|
          pss_one (ps_ret (pe_tup (pa_cons (pe_tup (pa_cons pe_str (pa_cons (pe_at (pe_at (pv 3) (pv 8)) (pe_un un_neg pe_int)) pa_nil))) (pa_cons (pe_tup (pa_cons (pv 2) (pa_cons (pe_ifExp (pt_cmpR op_eq (pv 8) pe_int (nomark _)) (pe_tup (pa_cons (pv 9) (pa_cons (pe_at (pv 3) pe_int) pa_nil))) (pe_tup (pa_cons (pe_at (pv 3) pe_int) (pa_cons (pv 9) pa_nil)))) (pa_cons (pv 4) pa_nil)))) pa_nil))))) pss_nil) <|
      pss_cons (ps_if (pt_cmpR op_eq (pv 5) pe_str (nomark _)) (pss_one (ps_ret (pe_tup (pa_cons (pe_tup (pa_cons pe_str (pa_cons (pv 2) pa_nil))) (pa_cons (pe_tup (pa_cons (pe_at (pv 1) pe_int) (pa_cons (pv 3) (pa_cons (pv 4) pa_nil)))) pa_nil))))) pss_nil) <|
      pss_cons (ps_par (i := 10) (j := 11) rfl sc_expect.nd rfl rfl (by decide) rfl rfl (pa_cons (pe_ifExp (pt_cmpR op_eq (pv 5) pe_str (nomark _)) (pe_lst (pa_cons (pe_slice sl_tup' (pv 1) (po_some pe_int) (po_some pe_int)) pa_nil)) (pe_at (pv 1) pe_int)) (pa_cons (pv 3) pa_nil)) (by rfl)) <|
      pss_cons (ps_set (i := 12) sc_expect.nd rfl (.inl rfl) pe_non) <|
      pss_cons (ps_for PassesOwn.never rfl (pi_list (pv 10)) (pg_tup rfl (pgs_cons (pg_name (i := 13) sc_expect.nd rfl (.inl rfl)) (pgs_cons (pg_name (i := 14) sc_expect.nd rfl (.inl rfl)) pgs_nil)))
        (pss_cons (ps_set (i := 15) sc_expect.nd rfl (.inl rfl) (pe_at (pv 11) (pe_intB T.z_int (pe_cmpR op_eq (pv 13) pe_str (nomark _))))) <|
          pss_cons (ps_if (pt_cmpR op_gt (pv 14) (pe_len T.z_len (pv 15)) (nomark _)) (pss_one (ps_ret (pe_tup (pa_cons (pe_tup (pa_cons pe_str (pa_cons (pe_len T.z_len (pv 15)) pa_nil))) (pa_cons (pv 0) pa_nil))))) pss_nil) <|
          pss_cons (ps_set (i := 12) sc_expect.nd rfl (.inl rfl) (pe_fn G1 hr T.g_lweigh (pa_cons (pe_tup (pa_cons (pv 2) (pa_cons (pv 4) pa_nil))) (pa_cons (pe_slice sl_tup' (pv 15) (po_some (pe_op op_sub (pe_len T.z_len (pv 15)) (pv 14))) po_none) pa_nil)))) <|
          pss_cons (ps_if (pt_cmpR op_gt (pv 12) (pv 2) (nomark _)) (pss_one (ps_ret (pe_tup (pa_cons (pe_tup (pa_cons pe_str (pa_cons (pv 12) pa_nil))) (pa_cons (pv 0) pa_nil))))) pss_nil) <|
          pss_one (ps_set (i := 11) sc_expect.nd rfl (.inl rfl) (pe_fn G2 hr T.g_hoisted (pa_cons (pv 11) (pa_cons (pv 13) (pa_cons (pv 14) pa_nil))))))) <|
      pss_one (ps_ret (pe_tup (pa_cons (pe_tup (pa_cons pe_str (pa_cons (pe_ifExp (pt_cmpR op_eq (pv 5) pe_str (nomark _)) (pv 12) pe_non) pa_nil))) (pa_cons (pe_tup (pa_cons (pv 2) (pa_cons (pv 11) (pa_cons (pv 4) pa_nil)))) pa_nil)))), ?_⟩
    obtain ⟨na, p, wa, rfl, hna, hp, hwa⟩ := lsD_I hnw
    obtain ⟨pa, l, q, rfl, hpa, hl, hq⟩ := pD_I hp
    cases d with
    | put wv r =>
      obtain ⟨da, u0, u1, u2, rfl, hda, e0, e1, e2⟩ := deed3 hd
      cases e0.strI
      cases e1.intI
      cases e2.strI
      refine ⟨_, rfl, na, _, rfl, SqT.of hna, rfl, _, _, rfl, _, _, rfl, _, _, rfl, rfl, ?_⟩
      refine ⟨_, rfl, da, _, 0, _, rfl, rfl, .inl hda, rfl, ?_⟩
      refine ⟨_, rfl, rfl, _, rfl, if_true_of (decide_eq_true rfl) ?_⟩
      obtain ⟨w1, w2⟩ := dok
      have iL' := ok.iL
      have iR' := ok.iR
      have lw := ok.lw
      have lp := ok.lp
      have lL : L.length ≤ 500 := by omega
      have lR : R.length ≤ 500 := by omega
      refine ⟨_, rfl, wa, _, rfl, .inl hwa, fit' (by show 1 ≤ 1000000; decide), fun n hn => ?_⟩
      rw [List.length_map]
      have s1 : Same H (upd H n (.tup [.int ws.length])) := Same.new hn
      have hn1 : upd H n (.tup [.int ws.length]) n = some (.tup [.int ws.length]) := upd_same
      generalize upd H n (.tup [.int ws.length]) = H1 at s1 hn1
      refine ⟨_, rfl, da, _, 2, _, rfl, rfl, .inl (s1.at hda), rfl, rfl, _, rfl, ?_⟩
      have rest : ∀ (H2 : Hp) (v2 : V) (L' R' : List Int), Same H H2 → DA Tp H2 (pD L' R') v2 → InW (ws ++ [wv]) L' → InW (ws ++ [wv]) R' → L'.length + R'.length ≤ m + 1 → (tRet (tTup (tCons (tTup (tCons (tC (.str "told")) (tCons (tCB rLen (tCons (tVar 4) tNil)) tNil))) (tCons (tTup (tCons (tVar 2) (tCons (tVar 7) (tCons (tOp rCatT' (tVar 4) (tTup (tCons (tOp rAt (tVar 1) (tC (.int 1))) tNil))) tNil)))) tNil)))) { nx := fun _ H' => Q .non H', rt := Q }
          [some (.ref na), some (.ref da), some (.int lim), some (.ref pa), some (.ref wa), some (.str "put"), some (.ref n), some v2, none, none, none, none, none, none, none, none] H2 := fun H2 v2 L' R' s2 d2 i1 i2 ll => by
        refine ⟨_, rfl, wa, _, rfl, .inl (s2.at hwa), fit' (by show 2 ≤ 1000000; decide), fun t1 ht1 => ⟨_, rfl, _, rfl, _, rfl, _, rfl, ?_⟩⟩
        have q1 : Same H2 (upd H2 t1 (.tup [.str "told", .int ((ws.map V.int).length : Int)])) := Same.new ht1
        generalize upd H2 t1 (.tup [.str "told", .int ((ws.map V.int).length : Int)]) = H3 at q1
        have s3 := s2.trans q1
        refine ⟨da, _, 1, _, rfl, rfl, .inl (s3.at hda), rfl, fit' (by show 1 ≤ 1000000; decide), fun t2 ht2 => ?_⟩
        have q2 : Same H3 (upd H3 t2 (.tup [.int wv])) := Same.new ht2
        have f2 : upd H3 t2 (.tup [.int wv]) t2 = some (.tup [.int wv]) := upd_same
        generalize upd H3 t2 (.tup [.int wv]) = H4 at q2 f2
        have s4 := s3.trans q2
        refine ⟨wa, t2, _, _, rfl, rfl, s4.at hwa, f2, by rw [List.length_map]; show ws.length + 1 ≤ 1000000; omega, fun z H5 q3 hz => ⟨fit' (by show 3 ≤ 1000000; decide), fun t3 ht3 => ⟨fit' (by show 2 ≤ 1000000; decide), fun t4 ht4 => ?_⟩⟩⟩
        have ew : ws.map V.int ++ [V.int wv] = (ws ++ [wv]).map V.int := by rw [List.map_append]; rfl
        rw [ew] at hz
        have q4 : Same H5 (upd H5 t3 (.tup [.int lim, v2, .ref z])) := Same.new ht3
        have f4 : upd H5 t3 (.tup [.int lim, v2, .ref z]) t3 = some (.tup [.int lim, v2, .ref z]) := upd_same
        generalize upd H5 t3 (.tup [.int lim, v2, .ref z]) = H6 at q4 f4 ht4
        have q5 : Same H6 (upd H6 t4 (.tup [.ref t1, .ref t3])) := Same.new ht4
        have q25 := ((((q1.trans q2).trans q3).trans q4).trans q5)
        exact k _ t4 _ (.ref t3) lim (ws ++ [wv]) L' R' (s2.trans q25) upd_same (lsD_M (q5.at f4) (d2.same q25) (q5.at (q4.at hz))) ⟨ok.lo, ok.hi, i1, i2, by rw [List.length_append, List.length_singleton]; omega, ll⟩
      cases r with
      | false =>
        refine if_true_of (decide_eq_true rfl) ?_
        refine ⟨_, rfl, pa, _, 0, _, rfl, rfl, .inl (s1.at hpa), rfl, _, rfl, l, n, _, _, rfl, rfl, s1.at hl, hn1, by rw [List.length_map]; show L.length + 1 ≤ 1000000; omega, fun z H2 s2 hz => ⟨_, rfl, pa, _, 1, _, rfl, rfl, .inl (s2.at (s1.at hpa)), rfl, fit' (by show 2 ≤ 1000000; decide), fun t ht => ?_⟩⟩
        have e : (L.map V.int ++ [V.int (ws.length : Int)]) = (L ++ [(ws.length : Int)]).map V.int := by rw [List.map_append]; rfl
        rw [e] at hz
        have s3 : Same H2 (upd H2 t (.tup [.ref z, .ref q])) := Same.new ht
        exact rest _ _ (L ++ [(ws.length : Int)]) R ((s1.trans s2).trans s3) (pD_M upd_same (s3.at hz) (s3.at (s2.at (s1.at hq)))) (iL'.new wv) (iR'.put wv) (by rw [List.length_append, List.length_singleton]; omega)
      | true =>
        refine if_false_of (decide_eq_false fun z => sd_ne (V.str.inj z)) ?_
        refine ⟨_, rfl, pa, _, 0, _, rfl, rfl, .inl (s1.at hpa), rfl, _, rfl, pa, _, 1, _, rfl, rfl, .inl (s1.at hpa), rfl, _, rfl, q, n, _, _, rfl, rfl, s1.at hq, hn1, by rw [List.length_map]; show R.length + 1 ≤ 1000000; omega, fun z H2 s2 hz => ⟨fit' (by show 2 ≤ 1000000; decide), fun t ht => ?_⟩⟩
        have e : (R.map V.int ++ [V.int (ws.length : Int)]) = (R ++ [(ws.length : Int)]).map V.int := by rw [List.map_append]; rfl
        rw [e] at hz
        have s3 : Same H2 (upd H2 t (.tup [.ref l, .ref z])) := Same.new ht
        exact rest _ _ L (R ++ [(ws.length : Int)]) ((s1.trans s2).trans s3) (pD_M upd_same (s3.at (s2.at (s1.at hl))) (s3.at hz)) (iL'.put wv) (iR'.new wv) (by rw [List.length_append, List.length_singleton]; omega)
    | putP wv =>
      obtain ⟨da, u0, u1, u2, u3, rfl, hda, e0, e1, e2, e3⟩ := deed4 hd
      cases e0.strI
      cases e1.intI
      cases e2.strI
      cases e3.strI
      refine ⟨_, rfl, na, _, rfl, SqT.of hna, rfl, _, _, rfl, _, _, rfl, _, _, rfl, rfl, ?_⟩
      refine ⟨_, rfl, da, _, 0, _, rfl, rfl, .inl hda, rfl, ?_⟩
      refine ⟨_, rfl, rfl, _, rfl, if_true_of (decide_eq_true rfl) ?_⟩
      obtain ⟨w1, w2⟩ := dok
      have iL' := ok.iL
      have iR' := ok.iR
      have lw := ok.lw
      have lp := ok.lp
      have lL : L.length ≤ 500 := by omega
      have lR : R.length ≤ 500 := by omega
      refine ⟨_, rfl, wa, _, rfl, .inl hwa, fit' (by show 1 ≤ 1000000; decide), fun n hn => ?_⟩
      rw [List.length_map]
      have s1 : Same H (upd H n (.tup [.int ws.length])) := Same.new hn
      have hn1 : upd H n (.tup [.int ws.length]) n = some (.tup [.int ws.length]) := upd_same
      generalize upd H n (.tup [.int ws.length]) = H1 at s1 hn1
      refine ⟨_, rfl, da, _, 2, _, rfl, rfl, .inl (s1.at hda), rfl, rfl, _, rfl, ?_⟩
      have rest : ∀ (H2 : Hp) (v2 : V) (L' R' : List Int), Same H H2 → DA Tp H2 (pD L' R') v2 → InW (ws ++ [wv]) L' → InW (ws ++ [wv]) R' → L'.length + R'.length ≤ m + 1 → (tRet (tTup (tCons (tTup (tCons (tC (.str "told")) (tCons (tCB rLen (tCons (tVar 4) tNil)) tNil))) (tCons (tTup (tCons (tVar 2) (tCons (tVar 7) (tCons (tOp rCatT' (tVar 4) (tTup (tCons (tOp rAt (tVar 1) (tC (.int 1))) tNil))) tNil)))) tNil)))) { nx := fun _ H' => Q .non H', rt := Q }
          [some (.ref na), some (.ref da), some (.int lim), some (.ref pa), some (.ref wa), some (.str "put"), some (.ref n), some v2, none, none, none, none, none, none, none, none] H2 := fun H2 v2 L' R' s2 d2 i1 i2 ll => by
        refine ⟨_, rfl, wa, _, rfl, .inl (s2.at hwa), fit' (by show 2 ≤ 1000000; decide), fun t1 ht1 => ⟨_, rfl, _, rfl, _, rfl, _, rfl, ?_⟩⟩
        have q1 : Same H2 (upd H2 t1 (.tup [.str "told", .int ((ws.map V.int).length : Int)])) := Same.new ht1
        generalize upd H2 t1 (.tup [.str "told", .int ((ws.map V.int).length : Int)]) = H3 at q1
        have s3 := s2.trans q1
        refine ⟨da, _, 1, _, rfl, rfl, .inl (s3.at hda), rfl, fit' (by show 1 ≤ 1000000; decide), fun t2 ht2 => ?_⟩
        have q2 : Same H3 (upd H3 t2 (.tup [.int wv])) := Same.new ht2
        have f2 : upd H3 t2 (.tup [.int wv]) t2 = some (.tup [.int wv]) := upd_same
        generalize upd H3 t2 (.tup [.int wv]) = H4 at q2 f2
        have s4 := s3.trans q2
        refine ⟨wa, t2, _, _, rfl, rfl, s4.at hwa, f2, by rw [List.length_map]; show ws.length + 1 ≤ 1000000; omega, fun z H5 q3 hz => ⟨fit' (by show 3 ≤ 1000000; decide), fun t3 ht3 => ⟨fit' (by show 2 ≤ 1000000; decide), fun t4 ht4 => ?_⟩⟩⟩
        have ew : ws.map V.int ++ [V.int wv] = (ws ++ [wv]).map V.int := by rw [List.map_append]; rfl
        rw [ew] at hz
        have q4 : Same H5 (upd H5 t3 (.tup [.int lim, v2, .ref z])) := Same.new ht3
        have f4 : upd H5 t3 (.tup [.int lim, v2, .ref z]) t3 = some (.tup [.int lim, v2, .ref z]) := upd_same
        generalize upd H5 t3 (.tup [.int lim, v2, .ref z]) = H6 at q4 f4 ht4
        have q5 : Same H6 (upd H6 t4 (.tup [.ref t1, .ref t3])) := Same.new ht4
        have q25 := ((((q1.trans q2).trans q3).trans q4).trans q5)
        exact k _ t4 _ (.ref t3) lim (ws ++ [wv]) L' R' (s2.trans q25) upd_same (lsD_M (q5.at f4) (d2.same q25) (q5.at (q4.at hz))) ⟨ok.lo, ok.hi, i1, i2, by rw [List.length_append, List.length_singleton]; omega, ll⟩
      refine if_true_of (decide_eq_true rfl) ?_
      refine ⟨_, rfl, pa, _, 0, _, rfl, rfl, .inl (s1.at hpa), rfl, _, rfl, l, n, _, _, rfl, rfl, s1.at hl, hn1, by rw [List.length_map]; show L.length + 1 ≤ 1000000; omega, fun z H2 s2 hz => ⟨_, rfl, pa, _, 1, _, rfl, rfl, .inl (s2.at (s1.at hpa)), rfl, fit' (by show 2 ≤ 1000000; decide), fun t ht => ?_⟩⟩
      have e : (L.map V.int ++ [V.int (ws.length : Int)]) = (L ++ [(ws.length : Int)]).map V.int := by rw [List.map_append]; rfl
      rw [e] at hz
      have s3 : Same H2 (upd H2 t (.tup [.ref z, .ref q])) := Same.new ht
      exact rest _ _ (L ++ [(ws.length : Int)]) R ((s1.trans s2).trans s3) (pD_M upd_same (s3.at hz) (s3.at (s2.at (s1.at hq)))) (iL'.new wv) (iR'.put wv) (by rw [List.length_append, List.length_singleton]; omega)
    | take r =>
      obtain ⟨da, u0, u1, rfl, hda, e0, e1⟩ := deed2 hd
      cases e0.strI
      cases e1.strI
      have lw := ok.lw
      have lp := ok.lp
      refine ⟨_, rfl, na, _, rfl, SqT.of hna, rfl, _, _, rfl, _, _, rfl, _, _, rfl, rfl, ?_⟩
      refine ⟨_, rfl, da, _, 0, _, rfl, rfl, .inl hda, rfl, ?_⟩
      refine ⟨_, rfl, rfl, _, rfl, if_false_of (decide_eq_false fun z => absurd (V.str.inj z) (by decide +kernel)) ?_⟩
      refine ⟨_, rfl, rfl, _, rfl, if_true_of (decide_eq_true rfl) ?_⟩
      refine ⟨_, rfl, da, _, 1, _, rfl, rfl, .inl hda, rfl, rfl, _, rfl, ?_⟩
      rw [side_int]
      have hat : atI [V.ref l, V.ref q] (if r then 1 else 0) = some (.ref (if r then q else l)) := by cases r <;> rfl
      have hpq : H (if r then q else l) = some (.tup ((if r then R else L).map V.int)) := by
        cases r
        · exact hl
        · exact hq
      have hiP : InW ws (if r then R else L) := InW.side ok.iL ok.iR r
      have hlP : (if r then R else L).length ≤ 1000 := len_side (by omega) (by omega) r
      refine ⟨_, rfl, _, rfl, pa, _, _, _, rfl, rfl, .inl hpa, hat, fit' (by show 0 ≤ 1000000; decide), fun e he => ?_⟩
      have s1 : Same H (upd H e (.tup [])) := Same.new he
      have f1 : upd H e (.tup []) e = some (.tup []) := upd_same
      generalize upd H e (.tup []) = H1 at s1 f1
      refine ⟨tI (if r then R else L), .tuple [], (DA.mkI (M := Bt) (s1.at hpq)).dp, (DA.tup (M := Bt) f1 DAs.nil).dp, (pl_tI (n := 0)).shaped (by decide), (pl_tI (n := 0) (ns := [])).shaped (by decide), _, rfl, ?_⟩
      rw [eqv_tnil]
      by_cases c : (if r then R else L) = []
      · refine if_true_of (by rw [c]; rfl) ?_
        refine ⟨_, rfl, da, _, 1, _, rfl, rfl, .inl (s1.at hda), rfl, fit' (by show 2 ≤ 1000000; decide), fun t1 ht1 => ⟨_, rfl, fit' (by show 2 ≤ 1000000; decide), fun t2 ht2 => ?_⟩⟩
        exact k _ t2 _ _ lim ws L R ((s1.trans (Same.new ht1)).trans (Same.new ht2)) upd_same (((hnw.same s1).same (Same.new ht1)).same (Same.new ht2)) (ok.mono (by omega))
      · refine if_false_of (by cases hc : (if r then R else L) with
          | nil => exact absurd hc c
          | cons x y => rfl) ?_
        refine ⟨_, rfl, _, rfl, pa, _, _, _, rfl, rfl, .inl (s1.at hpa), hat, 1, rfl, _, rfl, _, _, rfl, s1.at hpq, fun u H2 s2 hu => ?_⟩
        obtain ⟨P', e', l', m'⟩ := cut_ints (if r then R else L) none (some (-1))
        have hu' : H2 u = some (.tup (P'.map V.int)) := by rw [← e']; exact hu
        have s12 := s1.trans s2
        have hlast : atI ((if r then R else L).map V.int) (-1) = some (.int ((if r then R else L).getLast c)) := by
          have e : (if r then R else L) = (if r then R else L).dropLast ++ [(if r then R else L).getLast c] := (List.dropLast_concat_getLast c).symm
          have e2 : (if r then R else L).map V.int = (if r then R else L).dropLast.map V.int ++ [V.int ((if r then R else L).getLast c)] := by
            conv => lhs; rw [e]
            rw [List.map_append]
            rfl
          rw [e2]
          exact atI_last _ _
        refine ⟨_, rfl, _, rfl, pa, _, _, _, rfl, rfl, .inl (s12.at hpa), hat, 1, rfl, _, _, _, _, rfl, rfl, .inl (s12.at hpq), hlast, fit' (by show 2 ≤ 1000000; decide), fun t1 ht1 => ?_⟩
        have s3 : Same H2 (upd H2 t1 (.tup [.str "told", .int ((if r then R else L).getLast c)])) := Same.new ht1
        generalize upd H2 t1 (.tup [.str "told", .int ((if r then R else L).getLast c)]) = H3 at s3
        have s13 := s12.trans s3
        have hiP' : InW ws P' := fun i hi => hiP i (m' i hi)
        cases r with
        | false =>
          refine ⟨_, rfl, _, rfl, rfl, _, rfl, if_true_of (decide_eq_true rfl) ⟨_, rfl, _, rfl, pa, _, 1, _, rfl, rfl, .inl (s13.at hpa), rfl, fit' (by show 2 ≤ 1000000; decide), fun t2 ht2 => ?_⟩⟩
          have q1 : Same H3 (upd H3 t2 (.tup [.ref u, .ref q])) := Same.new ht2
          have f2 : upd H3 t2 (.tup [.ref u, .ref q]) t2 = some (.tup [.ref u, .ref q]) := upd_same
          generalize upd H3 t2 (.tup [.ref u, .ref q]) = H4 at q1 f2
          have s14 := s13.trans q1
          refine ⟨_, rfl, fit' (by show 3 ≤ 1000000; decide), fun t3 ht3 => ⟨fit' (by show 2 ≤ 1000000; decide), fun t4 ht4 => ?_⟩⟩
          have q2 : Same H4 (upd H4 t3 (.tup [.int lim, .ref t2, .ref wa])) := Same.new ht3
          have f3 : upd H4 t3 (.tup [.int lim, .ref t2, .ref wa]) t3 = some (.tup [.int lim, .ref t2, .ref wa]) := upd_same
          generalize upd H4 t3 (.tup [.int lim, .ref t2, .ref wa]) = H5 at q2 f3 ht4
          have q3 : Same H5 (upd H5 t4 (.tup [.ref t1, .ref t3])) := Same.new ht4
          have q23 := q2.trans q3
          refine k _ t4 _ (.ref t3) lim ws P' R (s14.trans q23) upd_same (lsD_M (q3.at f3) (pD_M (q23.at f2) (q23.at (q1.at (s3.at hu'))) ((s14.trans q23).at hq)) ((s14.trans q23).at hwa)) ⟨ok.lo, ok.hi, hiP', ok.iR, by omega, ?_⟩
          have l2 : P'.length ≤ L.length := l'
          omega
        | true =>
          refine ⟨_, rfl, _, rfl, rfl, _, rfl, if_false_of (decide_eq_false fun z => by cases z) ⟨_, rfl, pa, _, 0, _, rfl, rfl, .inl (s13.at hpa), rfl, _, rfl, fit' (by show 2 ≤ 1000000; decide), fun t2 ht2 => ?_⟩⟩
          have q1 : Same H3 (upd H3 t2 (.tup [.ref l, .ref u])) := Same.new ht2
          have f2 : upd H3 t2 (.tup [.ref l, .ref u]) t2 = some (.tup [.ref l, .ref u]) := upd_same
          generalize upd H3 t2 (.tup [.ref l, .ref u]) = H4 at q1 f2
          have s14 := s13.trans q1
          refine ⟨_, rfl, fit' (by show 3 ≤ 1000000; decide), fun t3 ht3 => ⟨fit' (by show 2 ≤ 1000000; decide), fun t4 ht4 => ?_⟩⟩
          have q2 : Same H4 (upd H4 t3 (.tup [.int lim, .ref t2, .ref wa])) := Same.new ht3
          have f3 : upd H4 t3 (.tup [.int lim, .ref t2, .ref wa]) t3 = some (.tup [.int lim, .ref t2, .ref wa]) := upd_same
          generalize upd H4 t3 (.tup [.int lim, .ref t2, .ref wa]) = H5 at q2 f3 ht4
          have q3 : Same H5 (upd H5 t4 (.tup [.ref t1, .ref t3])) := Same.new ht4
          have q23 := q2.trans q3
          refine k _ t4 _ (.ref t3) lim ws L P' (s14.trans q23) upd_same (lsD_M (q3.at f3) (pD_M (q23.at f2) ((s14.trans q23).at hl) (q23.at (q1.at (s3.at hu')))) ((s14.trans q23).at hwa)) ⟨ok.lo, ok.hi, ok.iL, hiP', by omega, ?_⟩
          have l2 : P'.length ≤ R.length := l'
          omega
    | setL lv =>
      obtain ⟨da, u0, u1, rfl, hda, e0, e1⟩ := deed2 hd
      cases e0.strI
      cases e1.intI
      refine ⟨_, rfl, na, _, rfl, SqT.of hna, rfl, _, _, rfl, _, _, rfl, _, _, rfl, rfl, ?_⟩
      refine ⟨_, rfl, da, _, 0, _, rfl, rfl, .inl hda, rfl, ?_⟩
      refine ⟨_, rfl, rfl, _, rfl, if_false_of (decide_eq_false fun z => absurd (V.str.inj z) (by decide +kernel)) ?_⟩
      refine ⟨_, rfl, rfl, _, rfl, if_false_of (decide_eq_false fun z => absurd (V.str.inj z) (by decide +kernel)) ?_⟩
      refine ⟨_, rfl, rfl, _, rfl, if_true_of (decide_eq_true rfl) ?_⟩
      refine ⟨_, rfl, fit' (by show 2 ≤ 1000000; decide), fun t1 ht1 => ?_⟩
      have s1 : Same H (upd H t1 (.tup [.str "told", .int lim])) := Same.new ht1
      generalize upd H t1 (.tup [.str "told", .int lim]) = H1 at s1
      refine ⟨_, rfl, da, _, 1, _, rfl, rfl, .inl (s1.at hda), rfl, _, rfl, _, rfl, fit' (by show 3 ≤ 1000000; decide), fun t3 ht3 => ⟨fit' (by show 2 ≤ 1000000; decide), fun t4 ht4 => ?_⟩⟩
      have q2 : Same H1 (upd H1 t3 (.tup [.int lv, .ref pa, .ref wa])) := Same.new ht3
      have f3 : upd H1 t3 (.tup [.int lv, .ref pa, .ref wa]) t3 = some (.tup [.int lv, .ref pa, .ref wa]) := upd_same
      generalize upd H1 t3 (.tup [.int lv, .ref pa, .ref wa]) = H3 at q2 f3 ht4
      have q3 : Same H3 (upd H3 t4 (.tup [.ref t1, .ref t3])) := Same.new ht4
      have s13 := (s1.trans q2).trans q3
      exact k _ t4 _ (.ref t3) lv ws L R s13 upd_same (lsD_M (q3.at f3) (hp.same s13) (s13.at hwa)) ⟨dok.1, dok.2, ok.iL, ok.iR, by have := ok.lw; omega, by have := ok.lp; omega⟩
    | lift r mm =>
      obtain ⟨da, u0, u1, u2, rfl, hda, e0, e1, e2⟩ := deed3 hd
      cases e0.strI
      cases e1.strI
      cases e2.intI
      have lw := ok.lw
      have lp := ok.lp
      refine ⟨_, rfl, na, _, rfl, SqT.of hna, rfl, _, _, rfl, _, _, rfl, _, _, rfl, rfl, ?_⟩
      refine ⟨_, rfl, da, _, 0, _, rfl, rfl, .inl hda, rfl, ?_⟩
      refine ⟨_, rfl, rfl, _, rfl, if_false_of (decide_eq_false fun z => absurd (V.str.inj z) (by decide +kernel)) ?_⟩
      refine ⟨_, rfl, rfl, _, rfl, if_false_of (decide_eq_false fun z => absurd (V.str.inj z) (by decide +kernel)) ?_⟩
      refine ⟨_, rfl, rfl, _, rfl, if_false_of (decide_eq_false fun z => absurd (V.str.inj z) (by decide +kernel)) ?_⟩
      refine ⟨_, rfl, rfl, _, rfl, if_true_of (decide_eq_true rfl) ?_⟩
      refine ⟨_, rfl, _, rfl, _, rfl, da, _, rfl, hda, fun lf H0a s0a hlf => ⟨fit' (by show 1 ≤ 1000000; decide), fun tl htl0 => ⟨_, rfl, _, _, rfl, ?_⟩⟩⟩
      rw [lift_cut] at hlf
      have s0b : Same H0a (upd H0a tl (.lst [.ref lf])) := Same.new htl0
      have htl : upd H0a tl (.lst [.ref lf]) tl = some (.lst [.ref lf]) := upd_same
      generalize upd H0a tl (.lst [.ref lf]) = H0 at s0b htl
      have s0 := s0a.trans s0b
      have hxs : DAs Tp H0 ([(r, mm)].map liftD) [.ref lf] := DAs.cons (DA.tup (s0b.at hlf) (DAs.cons DA.str (DAs.cons DA.int DAs.nil))) DAs.nil
      generalize [(r, mm)] = t at hxs
      generalize [V.ref lf] = xs at htl hxs
      refine ⟨_, rfl, tl, rfl, ⟨_, SqL.of htl⟩, for_list (K := K) (a := tl) (xs := xs) (fun i σ H' => ∃ (L' R' : List Int) (v hv : V) (o1 o2 o3 : Option V), σ = [some (.ref na), some (.ref da), some (.int lim), some (.ref pa), some (.ref wa), some (.str "lift"), none, none, none, none, some (.ref tl), some v, some hv, o1, o2, o3] ∧ Same H0 H' ∧ DA Tp H' (pD L' R') v ∧ InW ws L' ∧ InW ws R' ∧ L'.length + R'.length = L.length + R.length)
        ⟨L, R, .ref pa, .non, none, none, none, rfl, Same.refl H0, hp.same s0, ok.iL, ok.iR, rfl⟩ (fun i σ H' _ z => by obtain ⟨_, _, _, _, _, _, _, _, s1, _⟩ := z; exact SqL.of (s1.at htl)) ?_ ?_⟩
      · rintro i x σ H1 hx ⟨L', R', v, hv, o1, o2, o3, rfl, s1, hv1, iL', iR', hl'⟩
        obtain ⟨d, hd1, dx⟩ := hxs.getV hx
        rw [List.getElem?_map] at hd1
        cases ht : t[i]? with
        | none =>
          rw [ht] at hd1
          cases hd1
        | some qq =>
          rw [ht] at hd1
          obtain ⟨r', m'⟩ := qq
          have ed : liftD (r', m') = d := Option.some.inj hd1
          subst ed
          obtain ⟨z, rfl, hz⟩ := liftD_I (dx.same s1)
          obtain ⟨pa', l', q', rfl, hpa', hl1, hq1⟩ := pD_I hv1
          refine ⟨z, _, rfl, SqT.of hz, rfl, _, _, rfl, _, _, rfl, rfl, ?_⟩
          refine ⟨_, rfl, _, rfl, rfl, _, rfl, ?_⟩
          rw [side_int]
          have hat : atI [V.ref l', V.ref q'] (if r' then 1 else 0) = some (.ref (if r' then q' else l')) := by cases r' <;> rfl
          have hpq : H1 (if r' then q' else l') = some (.tup ((if r' then R' else L').map V.int)) := by
            cases r'
            · exact hl1
            · exact hq1
          have hiP : InW ws (if r' then R' else L') := InW.side iL' iR' r'
          have hlP : (if r' then R' else L').length ≤ 1000 := len_side (by omega) (by omega) r'
          refine ⟨pa', _, _, _, rfl, rfl, .inl hpa', hat, ?_⟩
          have s01 := s0.trans s1
          refine ⟨_, rfl, _, rfl, _, _, rfl, .inl hpq, _, _, rfl, rfl, _, rfl, ?_⟩
          rw [List.length_map]
          by_cases c : (if r' then R' else L').length < m'
          · refine if_true_of (decide_eq_true (by omega)) ?_
            refine ⟨_, rfl, _, _, rfl, .inl hpq, fit' (by show 2 ≤ 1000000; decide), fun t1 ht1 => ⟨_, rfl, fit' (by show 2 ≤ 1000000; decide), fun t2 ht2 => ?_⟩⟩
            exact k _ t2 _ _ lim ws L R ((s01.trans (Same.new ht1)).trans (Same.new ht2)) upd_same (((hnw.same s01).same (Same.new ht1)).same (Same.new ht2)) (ok.mono (by omega))
          · refine if_false_of (decide_eq_false (by omega)) ?_
            refine ⟨_, rfl, _, rfl, fit' (by show 2 ≤ 1000000; decide), fun cr hcr => ?_⟩
            have s2 : Same H1 (upd H1 cr (.tup [.int lim, .ref wa])) := Same.new hcr
            have f2 : upd H1 cr (.tup [.int lim, .ref wa]) cr = some (.tup [.int lim, .ref wa]) := upd_same
            generalize upd H1 cr (.tup [.int lim, .ref wa]) = H2 at s2 f2
            have s02 := s01.trans s2
            refine ⟨_, rfl, _, rfl, _, _, rfl, .inl (s2.at hpq), _, rfl, _, _, rfl, rfl, _, rfl, _, _, rfl, s2.at hpq, fun u H3 s3 hu => ?_⟩
            rw [List.length_map, cut_top (by omega)] at hu
            have ltop := top_len (if r' then R' else L') m'
            refine ⟨_, lim, ws, u, topN (if r' then R' else L') m', rfl, ldD_M (s3.at f2) ((s02.trans s3).at hwa), hu, hiP.top m', by omega, fun H4 s4 => ?_⟩
            have s04 := (s02.trans s3).trans s4
            refine ⟨_, rfl, _, rfl, _, _, rfl, rfl, _, rfl, ?_⟩
            by_cases c2 : lim < wsum ws (topN (if r' then R' else L') m')
            · refine if_true_of (decide_eq_true c2) ?_
              refine ⟨_, rfl, fit' (by show 2 ≤ 1000000; decide), fun t1 ht1 => ⟨_, rfl, fit' (by show 2 ≤ 1000000; decide), fun t2 ht2 => ?_⟩⟩
              exact k _ t2 _ _ lim ws L R ((s04.trans (Same.new ht1)).trans (Same.new ht2)) upd_same (((hnw.same s04).same (Same.new ht1)).same (Same.new ht2)) (ok.mono (by omega))
            · refine if_false_of (decide_eq_false c2) ?_
              have s24 := (s2.trans s3).trans s4
              refine ⟨_, rfl, _, rfl, _, rfl, .ref pa', L', R', r', m', rfl, hv1.same s24, by omega, by omega, fun H5 u5 s5 d5 => ?_⟩
              have mi := move_in iL' iR' r' m'
              have ml := move_len (L := L') (R := R') (r := r') (m := m') (by omega)
              exact ⟨moveL L' R' r' m', moveR L' R' r' m', u5, _, _, _, _, rfl, (s1.trans s24).trans s5, d5, mi.1, mi.2, by omega⟩
      · rintro σ H1 ⟨L', R', v, hv, o1, o2, o3, rfl, s1, hv1, iL', iR', hl'⟩
        have s01 := s0.trans s1
        refine ⟨_, rfl, rfl, _, rfl, if_true_of (decide_eq_true rfl) ⟨_, rfl, ?_⟩⟩
        refine ⟨fit' (by show 2 ≤ 1000000; decide), fun t1 ht1 => ?_⟩
        have q1 : Same H1 (upd H1 t1 _) := Same.new (o := .tup [.str "told", hv]) ht1
        generalize upd H1 t1 (.tup [.str "told", hv]) = H2 at q1
        refine ⟨_, rfl, _, rfl, _, rfl, fit' (by show 3 ≤ 1000000; decide), fun t3 ht3 => ⟨fit' (by show 2 ≤ 1000000; decide), fun t4 ht4 => ?_⟩⟩
        have q2 : Same H2 (upd H2 t3 (.tup [.int lim, v, .ref wa])) := Same.new ht3
        have f3 : upd H2 t3 (.tup [.int lim, v, .ref wa]) t3 = some (.tup [.int lim, v, .ref wa]) := upd_same
        generalize upd H2 t3 (.tup [.int lim, v, .ref wa]) = H3 at q2 f3 ht4
        have q3 : Same H3 (upd H3 t4 (.tup [.ref t1, .ref t3])) := Same.new ht4
        have q13 := (q1.trans q2).trans q3
        exact k _ t4 _ (.ref t3) lim ws L' R' (s01.trans q13) upd_same (lsD_M (q3.at f3) (hv1.same q13) ((s01.trans q13).at hwa)) ⟨ok.lo, ok.hi, iL', iR', by omega, by omega⟩
    | liftAll t =>
      obtain ⟨da, u0, u1, rfl, hda, e0, e1⟩ := deed2 hd
      cases e0.strI
      obtain ⟨tl, xs, rfl, htl, _, hxs0⟩ := e1.lstI
      have hxs := lifts_Tp hxs0
      have lw := ok.lw
      have lp := ok.lp
      refine ⟨_, rfl, na, _, rfl, SqT.of hna, rfl, _, _, rfl, _, _, rfl, _, _, rfl, rfl, ?_⟩
      refine ⟨_, rfl, da, _, 0, _, rfl, rfl, .inl hda, rfl, ?_⟩
      refine ⟨_, rfl, rfl, _, rfl, if_false_of (decide_eq_false fun z => absurd (V.str.inj z) (by decide +kernel)) ?_⟩
      refine ⟨_, rfl, rfl, _, rfl, if_false_of (decide_eq_false fun z => absurd (V.str.inj z) (by decide +kernel)) ?_⟩
      refine ⟨_, rfl, rfl, _, rfl, if_false_of (decide_eq_false fun z => absurd (V.str.inj z) (by decide +kernel)) ?_⟩
      refine ⟨_, rfl, rfl, _, rfl, if_false_of (decide_eq_false fun z => absurd (V.str.inj z) (by decide +kernel)) ?_⟩
      refine ⟨_, rfl, da, _, 1, _, rfl, rfl, .inl hda, rfl, _, rfl, _, _, rfl, ?_⟩
      have s0 : Same H H := Same.refl H
      refine ⟨_, rfl, tl, rfl, ⟨_, SqL.of htl⟩, for_list (K := K) (a := tl) (xs := xs) (fun i σ H' => ∃ (L' R' : List Int) (v hv : V) (o1 o2 o3 : Option V), σ = [some (.ref na), some (.ref da), some (.int lim), some (.ref pa), some (.ref wa), some (.str "lift_all"), none, none, none, none, some (.ref tl), some v, some hv, o1, o2, o3] ∧ Same H H' ∧ DA Tp H' (pD L' R') v ∧ InW ws L' ∧ InW ws R' ∧ L'.length + R'.length = L.length + R.length)
        ⟨L, R, .ref pa, .non, none, none, none, rfl, Same.refl H, hp.same s0, ok.iL, ok.iR, rfl⟩ (fun i σ H' _ z => by obtain ⟨_, _, _, _, _, _, _, _, s1, _⟩ := z; exact SqL.of (s1.at htl)) ?_ ?_⟩
      · rintro i x σ H1 hx ⟨L', R', v, hv, o1, o2, o3, rfl, s1, hv1, iL', iR', hl'⟩
        obtain ⟨d, hd1, dx⟩ := hxs.getV hx
        rw [List.getElem?_map] at hd1
        cases ht : t[i]? with
        | none =>
          rw [ht] at hd1
          cases hd1
        | some qq =>
          rw [ht] at hd1
          obtain ⟨r', m'⟩ := qq
          have ed : liftD (r', m') = d := Option.some.inj hd1
          subst ed
          obtain ⟨z, rfl, hz⟩ := liftD_I (dx.same s1)
          obtain ⟨pa', l', q', rfl, hpa', hl1, hq1⟩ := pD_I hv1
          refine ⟨z, _, rfl, SqT.of hz, rfl, _, _, rfl, _, _, rfl, rfl, ?_⟩
          refine ⟨_, rfl, _, rfl, rfl, _, rfl, ?_⟩
          rw [side_int]
          have hat : atI [V.ref l', V.ref q'] (if r' then 1 else 0) = some (.ref (if r' then q' else l')) := by cases r' <;> rfl
          have hpq : H1 (if r' then q' else l') = some (.tup ((if r' then R' else L').map V.int)) := by
            cases r'
            · exact hl1
            · exact hq1
          have hiP : InW ws (if r' then R' else L') := InW.side iL' iR' r'
          have hlP : (if r' then R' else L').length ≤ 1000 := len_side (by omega) (by omega) r'
          refine ⟨pa', _, _, _, rfl, rfl, .inl hpa', hat, ?_⟩
          have s01 := s0.trans s1
          refine ⟨_, rfl, _, rfl, _, _, rfl, .inl hpq, _, _, rfl, rfl, _, rfl, ?_⟩
          rw [List.length_map]
          by_cases c : (if r' then R' else L').length < m'
          · refine if_true_of (decide_eq_true (by omega)) ?_
            refine ⟨_, rfl, _, _, rfl, .inl hpq, fit' (by show 2 ≤ 1000000; decide), fun t1 ht1 => ⟨_, rfl, fit' (by show 2 ≤ 1000000; decide), fun t2 ht2 => ?_⟩⟩
            exact k _ t2 _ _ lim ws L R ((s01.trans (Same.new ht1)).trans (Same.new ht2)) upd_same (((hnw.same s01).same (Same.new ht1)).same (Same.new ht2)) (ok.mono (by omega))
          · refine if_false_of (decide_eq_false (by omega)) ?_
            refine ⟨_, rfl, _, rfl, fit' (by show 2 ≤ 1000000; decide), fun cr hcr => ?_⟩
            have s2 : Same H1 (upd H1 cr (.tup [.int lim, .ref wa])) := Same.new hcr
            have f2 : upd H1 cr (.tup [.int lim, .ref wa]) cr = some (.tup [.int lim, .ref wa]) := upd_same
            generalize upd H1 cr (.tup [.int lim, .ref wa]) = H2 at s2 f2
            have s02 := s01.trans s2
            refine ⟨_, rfl, _, rfl, _, _, rfl, .inl (s2.at hpq), _, rfl, _, _, rfl, rfl, _, rfl, _, _, rfl, s2.at hpq, fun u H3 s3 hu => ?_⟩
            rw [List.length_map, cut_top (by omega)] at hu
            have ltop := top_len (if r' then R' else L') m'
            refine ⟨_, lim, ws, u, topN (if r' then R' else L') m', rfl, ldD_M (s3.at f2) ((s02.trans s3).at hwa), hu, hiP.top m', by omega, fun H4 s4 => ?_⟩
            have s04 := (s02.trans s3).trans s4
            refine ⟨_, rfl, _, rfl, _, _, rfl, rfl, _, rfl, ?_⟩
            by_cases c2 : lim < wsum ws (topN (if r' then R' else L') m')
            · refine if_true_of (decide_eq_true c2) ?_
              refine ⟨_, rfl, fit' (by show 2 ≤ 1000000; decide), fun t1 ht1 => ⟨_, rfl, fit' (by show 2 ≤ 1000000; decide), fun t2 ht2 => ?_⟩⟩
              exact k _ t2 _ _ lim ws L R ((s04.trans (Same.new ht1)).trans (Same.new ht2)) upd_same (((hnw.same s04).same (Same.new ht1)).same (Same.new ht2)) (ok.mono (by omega))
            · refine if_false_of (decide_eq_false c2) ?_
              have s24 := (s2.trans s3).trans s4
              refine ⟨_, rfl, _, rfl, _, rfl, .ref pa', L', R', r', m', rfl, hv1.same s24, by omega, by omega, fun H5 u5 s5 d5 => ?_⟩
              have mi := move_in iL' iR' r' m'
              have ml := move_len (L := L') (R := R') (r := r') (m := m') (by omega)
              exact ⟨moveL L' R' r' m', moveR L' R' r' m', u5, _, _, _, _, rfl, (s1.trans s24).trans s5, d5, mi.1, mi.2, by omega⟩
      · rintro σ H1 ⟨L', R', v, hv, o1, o2, o3, rfl, s1, hv1, iL', iR', hl'⟩
        have s01 := s0.trans s1
        refine ⟨_, rfl, rfl, _, rfl, if_false_of (decide_eq_false fun z => absurd (V.str.inj z) (by decide +kernel)) ?_⟩
        refine ⟨fit' (by show 2 ≤ 1000000; decide), fun t1 ht1 => ?_⟩
        have q1 : Same H1 (upd H1 t1 _) := Same.new (o := .tup [.str "told", .non]) ht1
        generalize upd H1 t1 (.tup [.str "told", .non]) = H2 at q1
        refine ⟨_, rfl, _, rfl, _, rfl, fit' (by show 3 ≤ 1000000; decide), fun t3 ht3 => ⟨fit' (by show 2 ≤ 1000000; decide), fun t4 ht4 => ?_⟩⟩
        have q2 : Same H2 (upd H2 t3 (.tup [.int lim, v, .ref wa])) := Same.new ht3
        have f3 : upd H2 t3 (.tup [.int lim, v, .ref wa]) t3 = some (.tup [.int lim, v, .ref wa]) := upd_same
        generalize upd H2 t3 (.tup [.int lim, v, .ref wa]) = H3 at q2 f3 ht4
        have q3 : Same H3 (upd H3 t4 (.tup [.ref t1, .ref t3])) := Same.new ht4
        have q13 := (q1.trans q2).trans q3
        exact k _ t4 _ (.ref t3) lim ws L' R' (s01.trans q13) upd_same (lsD_M (q3.at f3) (hv1.same q13) ((s01.trans q13).at hwa)) ⟨ok.lo, ok.hi, iL', iR', by omega, by omega⟩
end
end Tw
set_option Elab.async false
set_option linter.all false
set_option maxRecDepth 100000
set_option maxHeartbeats 4000000
/-! deed: a drawn operation -/
namespace Tw
open PySem PySem.Spec PyProof.Rows L2
theorem box_free {H H1 : Hp} {b t : Addr} {n : Nat} (k : Keep (Mb b) H H1) (b1 : BoxAt H1 b n) (f : H1 t = none) : H t = none := by
  cases q : H t with
  | none => rfl
  | some o =>
    by_cases e : t = b
    · obtain ⟨_, _, _, h, _⟩ := b1
      rw [e, h] at f
      cases f
    · rw [k t o q fun z => absurd z e] at f
      cases f
theorem DA.intE {M : Addr → Prop} {H : Hp} {i j : Int} (e : i = j) : DA M H (.int j) (.int i) := by
  subst e
  exact DA.int
def spDeed : Sp := fun vs H Q _ => ∃ (b : Addr) (nw : V) (n : Nat) (lim : Int) (ws L R : List Int) (m : Nat), vs = [.ref b, nw] ∧ BoxAt H b n ∧ n + 60 ≤ 1000000 ∧ DA Tp H (LsD lim ws L R) nw ∧ LsOk lim ws L R m ∧ m ≤ 500 ∧
  ∀ H' u (d : Deed), Keep (Mb b) H H' → BoxAt H' b (n + 60) → DA (fun c => H c ≠ none) H' d.D (.ref u) → DeedOk d → Q (.ref u) H'
section
variable {P : Program} {w : World} {K : PySem.W.Frag} {mg : Str → Option Value} {base : Heap} {A : Ad}
theorem sc_deed : FnScope ["_law_box_here", "_law_now", "_law_bulk", "_law_stacks", "_law_kilos", "_law_sort", "_law_way", "_law_hoists_here", "_law_kilo", "_law_tour"] ["_law_box_here", "_law_now"] (defScope s_deed) := ⟨rfl, rfl, rfl, by decide +kernel, rfl, by decide +kernel, by decide +kernel⟩
theorem ok_deed {f : Addr} {fd : FuncData} (F : Fun K "_law_deed" "_law_deed" s_deed f fd) (T : TxG K mg A) (G1 : Cal P w K mg base CX0 2 A.take ["_law_box_here", "_law_below"] (spTk 10000000000000 2)) (G2 : Cal P w K mg base CX0 2 A.hoists ["_law_crate", "_law_stacks"] spLifts)
    (G3 : Cal P w K mg base CX0 3 A.ofL ["_law_box_here", "_law_some"] spOf) (G4 : Cal P w K mg base CX0 4 A.carried ["_law_box_here", "_law_crate", "_law_stacks", "_law_most"] spCarried) : FnOk P w K mg base CX0 5 f fd ["_law_box_here", "_law_now"] spDeed := by
  refine F.ok sc_deed (fun vs H Q E h => ?_) (fun cdv A' outer s H vs Q E hr h => ?_)
  · obtain ⟨b, nw, n, lim, ws, L, R, m, rfl, _⟩ := h
    rfl
  · obtain ⟨b, nw, n, lim, ws, L, R, m, rfl, hb, hn, hnw, ok, hm, k⟩ := h
    have hr2 := hr.mono (j := 2) (by decide)
    have hr3 := hr.mono (j := 3) (by decide)
    refine ⟨_, pss_cons (ps_asg (pv 1) (pg_tup rfl (pgs_cons (pg_name (i := 2) sc_deed.nd rfl (.inl rfl)) (pgs_cons (pg_name (i := 3) sc_deed.nd rfl (.inl rfl)) (pgs_cons (pg_name (i := 4) sc_deed.nd rfl (.inl rfl)) pgs_nil))))) <|
      pss_cons (ps_par3 (i := 5) (j := 6) (l := 7) rfl sc_deed.nd rfl rfl rfl (by decide) (by decide) (by decide) rfl rfl rfl (pa_cons (pe_fn G1 hr2 T.g_take (pa_cons (pv 0) (pa_cons pe_int pa_nil))) (pa_cons (pe_fn G3 hr3 T.g_ofL (pa_cons (pv 0) (pa_cons (pe_lst (pa_cons pe_str (pa_cons pe_str pa_nil))) pa_nil)))
        (pa_cons (pe_fn G2 hr2 T.g_hoists (pa_cons (pe_tup (pa_cons (pv 2) (pa_cons (pv 4) pa_nil))) (pa_cons (pv 3) pa_nil))) pa_nil))) (by rfl)) <|
      C8.pss_cut (ps_if (PW.pt (pw_and (pt_cmpR op_lt (pv 5) pe_int (nomark _)) (pw_and1 (pt_cmpR op_lt (pe_len T.z_len (pe_op op_catT' (pe_at (pv 3) pe_int) (pe_at (pv 3) pe_int))) pe_int (nomark _)))))
        (pss_cons (ps_set (i := 8) sc_deed.nd rfl (.inl rfl) (pe_callB (call_min2 rfl) (by rfl) T.z_min PyProof.Rows.boot_min (pa_cons (pe_op op_pow pe_int pe_int) (pa_cons (pe_op op_add pe_int (pe_fn G1 hr2 T.g_take (pa_cons (pv 0) (pa_cons (pe_op op_add (pe_op op_add (pv 2) (pe_op op_fdivW (pv 2) pe_int)) pe_int) pa_nil)))) pa_nil)))) <|
          pss_one (ps_ret (pe_ifExp (pt_cmpR op_eq (pe_fn G1 hr2 T.g_take (pa_cons (pv 0) (pa_cons pe_int pa_nil))) pe_int (nomark _)) (pe_tup (pa_cons pe_str (pa_cons (pv 8) (pa_cons pe_str (pa_cons pe_str pa_nil))))) (pe_tup (pa_cons pe_str (pa_cons (pv 8) (pa_cons (pv 6) pa_nil))))))) pss_nil) <|
      pss_cons (ps_if (pt_cmpR op_lt (pv 5) pe_int (nomark _)) (C8.pss_cut (ps_if (PW.pt (pw_and (pt_cmpR (op_neD hr.units) (pv 7) (pe_lst pa_nil) (nomark _)) (pw_and1 (pt_cmpR op_gt (pe_fn G1 hr2 T.g_take (pa_cons (pv 0) (pa_cons pe_int pa_nil))) pe_int (nomark _))))) (pss_one (ps_ret (pe_op op_catT' (pe_tup (pa_cons pe_str pa_nil)) (pe_fn G3 hr3 T.g_ofL (pa_cons (pv 0) (pa_cons (pv 7) pa_nil)))))) pss_nil) <|
          pss_one (ps_ret (pe_tup (pa_cons pe_str (pa_cons (pv 6) (pa_cons (pe_op op_add pe_int (pe_fn G1 hr2 T.g_take (pa_cons (pv 0) (pa_cons pe_int pa_nil)))) pa_nil)))))) pss_nil) <|
      pss_cons (ps_if (pt_cmpR op_lt (pv 5) pe_int (nomark _)) (pss_cons (ps_set (i := 9) sc_deed.nd rfl (.inl rfl) (pe_at (pe_fn G4 hr T.g_carried (pa_cons (pv 0) (pa_cons (pe_tup (pa_cons (pv 2) (pa_cons (pv 4) pa_nil))) (pa_cons (pv 3) (pa_cons pe_int pa_nil))))) pe_int)) <|
          pss_one (ps_ret (pe_tup (pa_cons pe_str (pa_cons (pe_ifExp (pt_cmpR op_gt (pe_fn G1 hr2 T.g_take (pa_cons (pv 0) (pa_cons pe_int pa_nil))) pe_int (nomark _)) (pv 9) (pe_op op_cat (pv 9) (pe_lst (pa_cons (pe_tup (pa_cons (pv 6) (pa_cons (pe_op op_add pe_int (pe_fn G1 hr2 T.g_take (pa_cons (pv 0) (pa_cons pe_int pa_nil)))) pa_nil))) pa_nil)))) pa_nil))))) pss_nil) <|
      pss_cons (ps_if (pt_cmpR op_lt (pv 5) pe_int (nomark _)) (pss_one (ps_ret (pe_tup (pa_cons pe_str (pa_cons (pv 6) pa_nil))))) pss_nil) <|
      pss_one (ps_ret (pe_tup (pa_cons pe_str (pa_cons (pe_op op_add pe_int (pe_fn G1 hr2 T.g_take (pa_cons (pv 0) (pa_cons (pe_fn G3 hr3 T.g_ofL (pa_cons (pv 0) (pa_cons (pe_lst (pa_cons pe_int (pa_cons pe_int (pa_cons (pe_op op_pow pe_int pe_int) pa_nil)))) pa_nil))) pa_nil)))) pa_nil)))), ?_⟩
    obtain ⟨na, p, wa, rfl, hna, hp, hwa⟩ := lsD_I hnw
    obtain ⟨pa, l, q, rfl, hpa, hl, hq⟩ := pD_I hp
    have lw := ok.lw
    have lp := ok.lp
    have lo := ok.lo
    have hi := ok.hi
    refine ⟨_, rfl, na, _, rfl, SqT.of hna, rfl, _, _, rfl, _, _, rfl, _, _, rfl, rfl, ?_⟩
    refine ⟨_, rfl, b, n, 14, rfl, hb, by omega, by decide, by decide, fun H1 r k1 b1 p1 p2 => ?_⟩
    refine ⟨_, rfl, fit' (by show 2 ≤ 1000000; decide), fun wl hwl => ?_⟩
    have s1a : Same H1 (upd H1 wl (.lst [.str "left", .str "right"])) := Same.new hwl
    have f1 : upd H1 wl (.lst [.str "left", .str "right"]) wl = some (.lst [.str "left", .str "right"]) := upd_same
    generalize upd H1 wl (.lst [.str "left", .str "right"]) = H1a at s1a f1
    have nwb : wl ≠ b := fun z => by
      obtain ⟨_, _, _, e, _⟩ := b1
      rw [z, e] at hwl
      cases hwl
    refine ⟨b, wl, n + 2, _, rfl, b1.same s1a, by omega, f1, nwb, by decide, by decide, fun H2 j x k2 b2 hx => ?_⟩
    obtain ⟨rr, rfl⟩ : ∃ rr, x = .str (sd rr) := by
      match j, hx with
      | 0, hx => exact ⟨false, (Option.some.inj hx).symm⟩
      | 1, hx => exact ⟨true, (Option.some.inj hx).symm⟩
      | (i + 2), hx => cases hx
    have k02 : Keep (Mb b) H H2 := (k1.trans (Keep.of s1a)).trans k2
    refine ⟨_, rfl, _, rfl, fit' (by show 2 ≤ 1000000; decide), fun cr hcr => ?_⟩
    have s2a : Same H2 (upd H2 cr (.tup [.int lim, .ref wa])) := Same.new hcr
    have f2 : upd H2 cr (.tup [.int lim, .ref wa]) cr = some (.tup [.int lim, .ref wa]) := upd_same
    generalize upd H2 cr (.tup [.int lim, .ref wa]) = H2a at s2a f2
    have k02a := k02.trans (Keep.of s2a)
    refine ⟨_, rfl, _, _, lim, ws, L, R, rfl, ldD_M f2 (k02a.tup hwa), hp.kp k02a, ok.iL, ok.iR, by omega, by omega, fun H3 ho xs s3 nho hho dho => ⟨_, _, _, rfl, ?_⟩⟩
    have k3 := k02a.trans (Keep.of s3)
    have b3 := (b2.same s2a).same s3
    have nhb : ho ≠ b := fun z => by
      obtain ⟨_, _, _, e, _⟩ := b2.same s2a
      rw [z, e] at nho
      cases nho
    have fr : ∀ {H' : Hp} {t : Addr} {i : Nat}, Keep (Mb b) H H' → BoxAt H' b i → H' t = none → H t = none := fun a c d => box_free a c d
    refine ⟨fun σ' H' => σ' = [some (.ref b), some (.ref na), some (.int lim), some (.ref pa), some (.ref wa), some (.int r), some (.str (sd rr)), some (.ref ho), none, none] ∧ Same H3 H', ?_, ?_⟩
    · -- sort < 5 and few items
      refine ⟨_, rfl, _, _, rfl, rfl, _, rfl, ?_⟩
      by_cases c1 : r < 5
      · refine if_true_of (decide_eq_true c1) ?_
        refine ⟨_, rfl, pa, _, 0, _, rfl, rfl, .inl (k3.tup hpa), rfl, _, rfl, pa, _, 1, _, rfl, rfl, .inl (k3.tup hpa), rfl, l, q, _, _, rfl, rfl, k3.tup hl, k3.tup hq, by rw [List.length_map, List.length_map]; omega, fun z H4 s4 hz => ?_⟩
        refine ⟨z, _, rfl, .inl hz, _, _, rfl, rfl, _, rfl, ?_⟩
        by_cases c2 : (((L.map V.int ++ R.map V.int).length : Nat) : Int) < 10
        · refine if_true_of (decide_eq_true c2) ?_
          refine ⟨_, _, rfl, rfl, ⟨by decide, by decide, by decide⟩, ?_⟩
          have b4 := b3.same s4
          refine ⟨_, rfl, _, rfl, _, rfl, _, _, rfl, rfl, wide_div (b := 60) (by decide) (by decide) (by decide) (by decide), _, _, rfl, rfl, _, _, rfl, rfl, b, _, _, rfl, b4, by omega, by omega, by omega, fun H5 rk k5 b5 p3 p4 => ?_⟩
          refine ⟨_, _, rfl, rfl, _, _, rfl, ?_⟩
          have e9 : (10 : Int) ^ (9 : Int).toNat = 1000000000 := by decide
          rw [e9]
          have kk1 : 1 ≤ (if 1 + rk < 1000000000 then 1 + rk else 1000000000 : Int) := by split <;> omega
          have kk2 : (if 1 + rk < 1000000000 then 1 + rk else 1000000000 : Int) ≤ 1000000000 := by split <;> omega
          generalize (if 1 + rk < 1000000000 then 1 + rk else 1000000000 : Int) = kv at kk1 kk2
          refine ⟨_, rfl, b, _, 4, rfl, b5, by omega, by decide, by decide, fun H6 r4 k6 b6 p5 p6 => ?_⟩
          have k06 := ((k3.trans (Keep.of s4)).trans k5).trans k6
          refine ⟨rfl, _, rfl, ?_⟩
          by_cases c3 : r4 = 0
          · refine if_true_of (by rw [c3]; exact decide_eq_true rfl) ?_
            refine ⟨_, rfl, fit' (by show 4 ≤ 1000000; decide), fun u hu => ?_⟩
            exact k _ u (.putP kv) (k06.trans (Keep.new hu)) ((b6.same (Same.new hu)).mono (by omega)) (DA.tup upd_same (DAs.cons DA.str (DAs.cons DA.int (DAs.cons DA.str (DAs.cons DA.str DAs.nil))))) ⟨kk1, kk2⟩
          · refine if_false_of (decide_eq_false fun z => c3 (V.int.inj z)) ?_
            refine ⟨_, rfl, _, rfl, fit' (by show 3 ≤ 1000000; decide), fun u hu => ?_⟩
            exact k _ u (.put kv rr) (k06.trans (Keep.new hu)) ((b6.same (Same.new hu)).mono (by omega)) (DA.tup upd_same (DAs.cons DA.str (DAs.cons DA.int (DAs.cons DA.str DAs.nil)))) ⟨kk1, kk2⟩
        · exact if_false_of (decide_eq_false c2) ⟨rfl, s4⟩
      · exact if_false_of (decide_eq_false c1) ⟨rfl, Same.refl H3⟩
    · rintro σ' H4 ⟨rfl, s4⟩
      have k4 := k3.trans (Keep.of s4)
      have b4 := b3.same s4
      refine ⟨_, rfl, _, _, rfl, rfl, _, rfl, ?_⟩
      by_cases c1 : r < 8
      · refine if_true_of (decide_eq_true c1) ?_
        refine ⟨fun σ' H' => σ' = [some (.ref b), some (.ref na), some (.int lim), some (.ref pa), some (.ref wa), some (.int r), some (.str (sd rr)), some (.ref ho), none, none] ∧ Keep (Mb b) H H' ∧ BoxAt H' b (n + 10), ?_, ?_⟩
        · refine ⟨_, rfl, fit' (by show 0 ≤ 1000000; decide), fun e he => ?_⟩
          have s5 : Same H4 (upd H4 e (.lst [])) := Same.new he
          have f5 : upd H4 e (.lst []) e = some (.lst []) := upd_same
          generalize upd H4 e (.lst []) = H5 at s5 f5
          have hho5 := s5.at (s4.at hho)
          have dho5 := (dho.same s4).same s5
          have k5 := k4.trans (Keep.of s5)
          have b5 := b4.same s5
          refine ne_nil hho5 dho5 f5 ⟨_, rfl, ?_⟩
          cases hc : can lim ws L R with
          | nil => exact if_false_of rfl ⟨rfl, k5, b5.mono (by omega)⟩
          | cons q0 qr =>
            refine if_true_of rfl ?_
            refine ⟨_, rfl, b, _, 5, rfl, b5, by omega, by decide, by decide, fun H6 r5 k6 b6 p3 p4 => ⟨_, _, rfl, rfl, _, rfl, ?_⟩⟩
            have k06 := k5.trans k6
            by_cases c2 : 0 < r5
            · refine if_true_of (decide_eq_true c2) ?_
              refine ⟨fit' (by show 1 ≤ 1000000; decide), fun t1 ht1 => ?_⟩
              have s7 : Same H6 (upd H6 t1 (.tup [.str "lift"])) := Same.new ht1
              have f7 : upd H6 t1 (.tup [.str "lift"]) t1 = some (.tup [.str "lift"]) := upd_same
              generalize upd H6 t1 (.tup [.str "lift"]) = H7 at s7 f7
              have xl : xs.length = (can lim ws L R).length := by rw [dho.length, List.length_map]
              have cle := can_le lim ws L R
              have cpos : 0 < (can lim ws L R).length := by rw [hc]; exact Nat.succ_pos _
              have hho7 := s7.at (k6.lst hho5 nhb)
              refine ⟨_, rfl, _, rfl, b, ho, _, xs, rfl, b6.same s7, by omega, hho7, nhb, by omega, by omega, fun H8 j x k8 b8 hx8 => ?_⟩
              obtain ⟨d, hd, dx⟩ := ((dho5.kp k6).same s7).getV hx8
              rw [List.getElem?_map] at hd
              cases hq2 : (can lim ws L R)[j]? with
              | none =>
                rw [hq2] at hd
                cases hd
              | some qq =>
                rw [hq2] at hd
                obtain ⟨r', m'⟩ := qq
                have ed : liftD (r', m') = d := Option.some.inj hd
                subst ed
                obtain ⟨z, rfl, hz⟩ := liftD_I (dx.kp k8)
                refine ⟨t1, z, _, _, rfl, rfl, k8.tup f7, hz, by show 1 + 2 ≤ 1000000; decide, fun u H9 s9 hu => ?_⟩
                have k09 := ((k06.trans (Keep.of s7)).trans k8).trans (Keep.of s9)
                exact k _ u (.lift r' m') k09 ((b8.same s9).mono (by omega)) (DA.tup hu (DAs.cons DA.str (DAs.cons DA.str (DAs.cons DA.int DAs.nil)))) True.intro
            · exact if_false_of (decide_eq_false c2) ⟨rfl, k06, b6.mono (by omega)⟩
        · rintro σ' H5 ⟨rfl, k5, b5⟩
          refine ⟨_, rfl, _, rfl, b, _, 5, rfl, b5, by omega, by decide, by decide, fun H6 r5 k6 b6 p3 p4 => ⟨_, _, rfl, rfl, fit' (by show 3 ≤ 1000000; decide), fun u hu => ?_⟩⟩
          have k06 := k5.trans k6
          have e1 : (1 : Int) + r5 = (((1 + r5).toNat : Nat) : Int) := by omega
          refine k _ u (.lift rr (1 + r5).toNat) (k06.trans (Keep.new hu)) ((b6.same (Same.new hu)).mono (by omega)) (DA.tup upd_same (DAs.cons DA.str (DAs.cons DA.str (DAs.cons (DA.intE e1) DAs.nil)))) True.intro
      · refine if_false_of (decide_eq_false c1) ?_
        refine ⟨_, rfl, _, _, rfl, rfl, _, rfl, ?_⟩
        by_cases c2 : r < 10
        · refine if_true_of (decide_eq_true c2) ?_
          refine ⟨_, rfl, _, rfl, _, rfl, fit' (by show 2 ≤ 1000000; decide), fun cr2 hcr2 => ?_⟩
          have s5 : Same H4 (upd H4 cr2 (.tup [.int lim, .ref wa])) := Same.new hcr2
          have f5 : upd H4 cr2 (.tup [.int lim, .ref wa]) cr2 = some (.tup [.int lim, .ref wa]) := upd_same
          generalize upd H4 cr2 (.tup [.int lim, .ref wa]) = H5 at s5 f5
          have k5 := k4.trans (Keep.of s5)
          have b5 := b4.same s5
          refine ⟨_, rfl, b, _, _, _, lim, ws, L, R, rfl, b5, by omega, ldD_M f5 (k5.tup hwa), hp.kp k5, ok.iL, ok.iR, by omega, fun H6 u t x xs tr k6 b6 hu ht ntb ft dt ltr => ?_⟩
          have k06 := k5.trans k6
          have ft0 := fr k5 b5 ft
          refine ⟨u, _, 1, _, rfl, rfl, .inl hu, rfl, ?_⟩
          refine ⟨_, rfl, b, _, 4, rfl, b6, by omega, by decide, by decide, fun H7 r7 k7 b7 p3 p4 => ⟨_, _, rfl, rfl, _, rfl, ?_⟩⟩
          have k07 := k06.trans k7
          have ht7 := k7.lst ht ntb
          have dt7 := dt.kp k7
          by_cases c3 : 0 < r7
          · refine if_true_of (decide_eq_true c3) ?_
            refine ⟨_, rfl, fit' (by show 2 ≤ 1000000; decide), fun u2 hu2 => ?_⟩
            have s8 : Same H7 (upd H7 u2 (.tup [.str "lift_all", .ref t])) := Same.new hu2
            exact k _ u2 (.liftAll tr) (k07.trans (Keep.of s8)) ((b7.same s8).mono (by omega)) (DA.tup upd_same (DAs.cons DA.str (DAs.cons (DA.lst (s8.at ht7) (fun z => z ft0) (dt7.same s8).any) DAs.nil))) (by show tr.length ≤ 1000; omega)
          · refine if_false_of (decide_eq_false c3) ?_
            refine ⟨_, rfl, _, rfl, _, rfl, b, _, 5, rfl, b7, by omega, by decide, by decide, fun H8 r8 k8 b8 p5 p6 => ⟨_, _, rfl, rfl, fit' (by show 2 ≤ 1000000; decide), fun t2 ht2 => ?_⟩⟩
            have s9 : Same H8 (upd H8 t2 (.tup [.str (sd rr), .int (1 + r8)])) := Same.new ht2
            have f9 : upd H8 t2 (.tup [.str (sd rr), .int (1 + r8)]) t2 = some (.tup [.str (sd rr), .int (1 + r8)]) := upd_same
            generalize upd H8 t2 (.tup [.str (sd rr), .int (1 + r8)]) = H9 at s9 f9
            refine ⟨fit' (by show 1 ≤ 1000000; decide), fun t3 ht3 => ?_⟩
            have s10 : Same H9 (upd H9 t3 (.lst [.ref t2])) := Same.new ht3
            have f10 : upd H9 t3 (.lst [.ref t2]) t3 = some (.lst [.ref t2]) := upd_same
            generalize upd H9 t3 (.lst [.ref t2]) = H10 at s10 f10
            have s810 := s9.trans s10
            have ht10 := s810.at (k8.lst ht7 ntb)
            have dt10 := (dt7.kp k8).same s810
            have k010 := (k07.trans k8).trans (Keep.of s810)
            have b10 := b8.same s810
            refine ⟨t, t3, xs, _, rfl, rfl, ht10, f10, by rw [dt.length, List.length_map, List.length_singleton, sizeLine_eq]; omega, fun t4 ht4 => ?_⟩
            have s11 : Same H10 (upd H10 t4 (.lst (xs ++ [.ref t2]))) := Same.new ht4
            have f11 : upd H10 t4 (.lst (xs ++ [.ref t2])) t4 = some (.lst (xs ++ [.ref t2])) := upd_same
            have ft4 := fr k010 b10 ht4
            generalize upd H10 t4 (.lst (xs ++ [.ref t2])) = H11 at s11 f11
            have k011 := k010.trans (Keep.of s11)
            have b11 := b10.same s11
            refine ⟨fit' (by show 2 ≤ 1000000; decide), fun u2 hu2 => ?_⟩
            have s12 : Same H11 (upd H11 u2 (.tup [.str "lift_all", .ref t4])) := Same.new hu2
            have e1 : (1 : Int) + r8 = (((1 + r8).toNat : Nat) : Int) := by omega
            have dd : DAs Tp H11 ((tr ++ [(rr, (1 + r8).toNat)]).map liftD) (xs ++ [.ref t2]) := by
              rw [List.map_append]
              refine DAs.append (dt10.same s11) (DAs.cons (DA.tup (s11.at (s10.at f9)) (DAs.cons DA.str (DAs.cons (DA.intE e1) DAs.nil))) DAs.nil)
            exact k _ u2 (.liftAll (tr ++ [(rr, (1 + r8).toNat)])) (k011.trans (Keep.of s12)) ((b11.same s12).mono (by omega)) (DA.tup upd_same (DAs.cons DA.str (DAs.cons (DA.lst (s12.at f11) (fun z => z ft4) (dd.same s12).any) DAs.nil))) (by show (tr ++ [(rr, (1 + r8).toNat)]).length ≤ 1000; rw [List.length_append, List.length_singleton]; omega)
        · refine if_false_of (decide_eq_false c2) ?_
          refine ⟨_, rfl, _, _, rfl, rfl, _, rfl, ?_⟩
          by_cases c3 : r < 12
          · refine if_true_of (decide_eq_true c3) ?_
            refine ⟨_, rfl, fit' (by show 2 ≤ 1000000; decide), fun u hu => ?_⟩
            exact k _ u (.take rr) (k4.trans (Keep.new hu)) ((b4.same (Same.new hu)).mono (by omega)) (DA.tup upd_same (DAs.cons DA.str (DAs.cons DA.str DAs.nil))) True.intro
          · refine if_false_of (decide_eq_false c3) ?_
            refine ⟨_, rfl, _, rfl, _, _, rfl, rfl, ⟨by decide, by decide, by decide⟩, fit' (by show 3 ≤ 1000000; decide), fun tl htl => ?_⟩
            have e9 : (10 : Int) ^ (9 : Int).toNat = 1000000000 := by decide
            have s5 : Same H4 (upd H4 tl (.lst [.int 3, .int 20, .int ((10 : Int) ^ (9 : Int).toNat)])) := Same.new htl
            have f5 : upd H4 tl (.lst [.int 3, .int 20, .int ((10 : Int) ^ (9 : Int).toNat)]) tl = some (.lst [.int 3, .int 20, .int ((10 : Int) ^ (9 : Int).toNat)]) := upd_same
            have ntb : tl ≠ b := fun z => by
              obtain ⟨_, _, _, e, _⟩ := b4
              rw [z, e] at htl
              cases htl
            generalize upd H4 tl (.lst [.int 3, .int 20, .int ((10 : Int) ^ (9 : Int).toNat)]) = H5 at s5 f5
            refine ⟨b, tl, _, _, rfl, b4.same s5, by omega, f5, ntb, by decide, by decide, fun H6 j x k6 b6 hx => ?_⟩
            obtain ⟨bw, rfl, w1, w2⟩ : ∃ bw : Int, x = .int bw ∧ 1 ≤ bw ∧ bw ≤ 1000000000 := by
              match j, hx with
              | 0, hx => exact ⟨3, (Option.some.inj hx).symm, by decide, by decide⟩
              | 1, hx => exact ⟨20, (Option.some.inj hx).symm, by decide, by decide⟩
              | 2, hx => exact ⟨(10 : Int) ^ (9 : Int).toNat, (Option.some.inj hx).symm, by rw [e9]; decide, by rw [e9]; decide⟩
              | (i + 3), hx => cases hx
            have k06 := (k4.trans (Keep.of s5)).trans k6
            refine ⟨b, _, bw, rfl, b6, by omega, w1, by omega, fun H7 r7 k7 b7 p3 p4 => ⟨_, _, rfl, rfl, fit' (by show 2 ≤ 1000000; decide), fun u hu => ?_⟩⟩
            have k07 := k06.trans k7
            exact k _ u (.setL (1 + r7)) (k07.trans (Keep.new hu)) ((b7.same (Same.new hu)).mono (by omega)) (DA.tup upd_same (DAs.cons DA.str (DAs.cons DA.int DAs.nil))) ⟨by omega, by omega⟩
end
end Tw
set_option Elab.async false
set_option linter.all false
set_option maxRecDepth 100000
set_option maxHeartbeats 4000000
/-! row_right: lifts one by one are the row -/
namespace Tw
open PySem PySem.Spec PyProof.Rows L2
def ShR (A : Ad) : Addr → Addr → Hp → Prop := fun a b H => ∃ (sl ll sl' ll' : Addr) (pre pre' : List Sta) (s : Sta) (log log' : List PyData), ShedAt A H a sl ll (pre ++ [s]) log ∧ ShedAt A H b sl' ll' (pre' ++ [s]) log' ∧ SOk s 900
theorem eqL {P : Program} {w : World} {K : PySem.W.Frag} {mg : Str → Option Value} {base : Heap} {A : Ad} {k : Nat} {fd : FuncData} (F : FnOk P w K mg base CX0 k A.Sh_eq fd ["self", "other"] (spEq A)) : FnOk P w K mg base CX0 k A.Sh_eq fd ["self", "other"] (L2.spEq (ShR A)) :=
  F.imp fun vs H Q E h => by
    obtain ⟨a, b, e, ⟨sl, ll, sl', ll', pre, pre', s, log, log', h1, h2, h3⟩, k⟩ := h
    exact ⟨a, b, sl, ll, sl', ll', pre, pre', s, log, log', e, h1, h2, h3, fun H' s1 => k H' s1⟩
theorem ShedAt.ins {A : Ad} {H : Hp} {a sl ll : Addr} {sts : List Sta} {log : List PyData} (h : ShedAt A H a sl ll sts log) : ∃ dx fs, H a = some (.ins A.cShed dx fs) := by
  obtain ⟨_, dx, _, _, g, _⟩ := h
  exact ⟨dx, _, g⟩
theorem ShedAt.din {A : Ad} {H : Hp} {a b sl ll sl' ll' : Addr} {pre pre' : List Sta} {s : Sta} {log log' : List PyData} (h : ShedAt A H a sl ll (pre ++ [s]) log) (h' : ShedAt A H b sl' ll' (pre' ++ [s]) log') (ok : SOk s 900) : DIns A.cShed (ShR A) (.ref a) (.ref b) H := by
  obtain ⟨dx, fs, g⟩ := h.ins
  obtain ⟨dy, gs, g'⟩ := h'.ins
  exact ⟨a, b, dx, dy, fs, gs, rfl, rfl, g, g', sl, ll, sl', ll', pre, pre', s, log, log', h, h', ok⟩
theorem liftsP_snoc {lim : Int} {ws : List Int} {r : Bool} {m : Nat} : ∀ {t : List (Bool × Nat)} {L R : List Int} {q q' : List Int × List Int}, liftsP lim ws L R t = .ok q → liftP lim ws q.1 q.2 r m = .ok q' → liftsP lim ws L R (t ++ [(r, m)]) = .ok q'
  | [], L, R, q, q', h, g => by
    have e : (L, R) = q := Except.ok.inj h
    subst e
    show liftsP lim ws L R [(r, m)] = .ok q'
    rw [liftsP_ok g]
    rfl
  | (r1, m1) :: t, L, R, q, q', h, g => by
    unfold liftsP at h
    cases e : liftP lim ws L R r1 m1 with
    | error z =>
      rw [e] at h
      cases h
    | ok z =>
      rw [e] at h
      show liftsP lim ws L R ((r1, m1) :: (t ++ [(r, m)])) = .ok q'
      rw [liftsP_ok e]
      exact liftsP_snoc h g
theorem SOk.lift {s : Sta} {r : Bool} {m n : Nat} {q : List Int × List Int} (h : SOk s n) (e : liftP s.lim s.ws s.L s.R r m = .ok q) : SOk { s with L := q.1, R := q.2 } n := by
  obtain ⟨⟨g1, g2⟩, g3⟩ := liftP_good e h.iL h.iR
  exact ⟨g1, g2, by have := h.few; show q.1.length + q.2.length ≤ s.ws.length; omega, h.le, h.bd⟩
def spRow (A : Ad) : Sp := fun vs H Q _ => ∃ (b a sl ll : Addr) (n : Nat) (pre : List Sta) (s : Sta) (log : List PyData), vs = [.ref b, .ref a] ∧ BoxAt H b n ∧ n + 20 ≤ 1000000 ∧ ShedAt A H a sl ll (pre ++ [s]) log ∧ ¬ Mx sl ll b ∧ SOk s 900 ∧ pre.length ≤ 900 ∧ log.length ≤ 9000 ∧
  ∀ H', Keep (fun c => c = b ∨ Mx sl ll c) H H' → Q (.bl true) H'
section
variable {P : Program} {w : World} {K : PySem.W.Frag} {mg : Str → Option Value} {base : Heap} {A : Ad}
theorem sc_row : FnScope ["_law_box_here", "_law_barn", "_law_twin", "_law_tour", "_law_turn"] ["_law_box_here", "_law_barn"] (defScope s_rowRight) := ⟨rfl, rfl, rfl, by decide +kernel, rfl, by decide +kernel, by decide +kernel⟩
theorem ok_row {f : Addr} {fd : FuncData} (F : Fun K "_law_row_right" "_law_row_right" s_rowRight f fd) (T : TxG K mg A) (TC : TxC K A) (G1 : Cal P w K mg base CX0 7 A.Sh_twin ["self"] (spTwin A)) (G2 : Cal P w K mg base CX0 4 A.Sh_lifts ["self"] (spShLifts A)) (G3 : Cal P w K mg base CX0 3 A.ofL ["_law_box_here", "_law_some"] spOf)
    (G4 : Cal P w K mg base (L2.CX P w) 5 A.Sh_lift ["self", "side", "many"] (spLift A)) (G5 : Cal P w K mg base (L2.CX P w) 5 A.Sh_lift_all ["self", "row"] (spLiftAllM A)) (G6 : Cal P w K mg base CX0 3 A.Sh_eq ["self", "other"] (spEq A)) (G7 : Cal P w K mg base CX0 3 A.Sh_state ["self"] (spState A)) :
    FnOk P w K mg base CX0 8 f fd ["_law_box_here", "_law_barn"] (spRow A) := by
  obtain ⟨fd6, F6, kp6, b6⟩ := G6
  refine F.ok sc_row (fun vs H Q E h => ?_) (fun cdv A' outer s H vs Q E hr h => ?_)
  · obtain ⟨b, a, sl, ll, n, pre, st, log, rfl, _⟩ := h
    rfl
  · obtain ⟨b, a, sl, ll, n, pre, st, log, rfl, hb, hn, h, nb, ok, hpre, hlog, k⟩ := h
    have hr3 := hr.mono (j := 3) (by decide)
    have hr4 := hr.mono (j := 4) (by decide)
    have hr5 := hr.mono (j := 5) (by decide)
    refine ⟨_, pss_cons (ps_par (i := 2) (j := 3) rfl sc_row.nd rfl rfl (by decide) rfl rfl (pa_cons (pe_mt0 G1 TC.cl_Shed TC.m_Sh_twin hr (pv 1)) (pa_cons (pe_lst pa_nil) pa_nil)) (by rfl)) <|
      pss_cons (ps_for PassesOwn.never rfl (pi_range1 (by rfl) T.z_range (pa_cons pe_int pa_nil)) (pg_name (i := 4) sc_row.nd rfl (.inl rfl))
        (pss_one (ps_if (pt_cmpR (op_neD hr.units) (pe_mt0 G2 TC.cl_Shed TC.m_Sh_lifts hr4 (pv 1)) (pe_lst pa_nil) (nomark _))
          (pss_cons (ps_expr (pe_bm PySem.F.plainAttrs_list PySem.F.slot_list_append PySem.F.type_list_append mt_append (pv 3) (pa_cons (pe_fn G3 hr3 T.g_ofL (pa_cons (pv 0) (pa_cons (pe_mt0 G2 TC.cl_Shed TC.m_Sh_lifts hr4 (pv 1)) pa_nil))) pa_nil))) <|
            pss_one (ps_expr (pe_mtX (E := fun _ => E0) G4 TC.cl_Shed TC.m_Sh_lift hr5 passN (pv 1) (pa_cons (pe_at (pe_at (pv 3) (pe_un un_neg pe_int)) pe_int) (pa_cons (pe_at (pe_at (pv 3) (pe_un un_neg pe_int)) pe_int) pa_nil))))) pss_nil))) <|
      pss_cons (ps_expr (pe_mtX (E := fun _ => E0) G5 TC.cl_Shed TC.m_Sh_lift_all hr5 passN (pv 2) (pa_cons (pv 3) pa_nil))) <|
      pss_one (ps_ret (pe_and (pe_cmpR (op_eqG (rcG_ins (eqL F6) TC.f_eq TC.i_eq b6 pass0) hr3) (pv 2) (pv 1) (nomark _)) (pe_and (pe_cmpR (op_eqD hr.units) (pe_mt0 G2 TC.cl_Shed TC.m_Sh_lifts hr4 (pv 2)) (pe_mt0 G2 TC.cl_Shed TC.m_Sh_lifts hr4 (pv 1)) (nomark _))
        (pe_one (pe_cmpR (op_eqD hr.units) (pe_mt0 G7 TC.cl_Shed TC.m_Sh_state hr3 (pv 2)) (pe_mt0 G7 TC.cl_Shed TC.m_Sh_state hr3 (pv 1)) (nomark _)))))), ?_⟩
    refine ⟨_, rfl, sh_at h ⟨a, sl, ll, _, log, rfl, h, by simp, fun H1 tw sl2 ll2 s1 n1 n2 n3 htw => ⟨fit' (by show 0 ≤ 1000000; decide), fun t ht => ⟨_, _, rfl, ?_⟩⟩⟩⟩
    have s2 : Same H1 (upd H1 t (.lst [])) := Same.new ht
    have f2 : upd H1 t (.lst []) t = some (.lst []) := upd_same
    generalize upd H1 t (.lst []) = H2 at s2 f2
    have s02 := s1.trans s2
    have ft := s1.free ht
    have hb2 := hb.same s02
    have ntb : t ≠ b := fun z => by
      obtain ⟨_, _, _, e, _⟩ := hb
      rw [z, e] at ft
      cases ft
    have old := h.old ft
    have old2 := htw.old ht
    have ol2 := h.old n2
    have ol3 := h.old n3
    have n2b : sl2 ≠ b := fun z => by
      obtain ⟨_, _, _, e, _⟩ := hb
      rw [z, e] at n2
      cases n2
    have n3b : ll2 ≠ b := fun z => by
      obtain ⟨_, _, _, e, _⟩ := hb
      rw [z, e] at n3
      cases n3
    have ntM : ¬ Mx sl ll t := fun z => z.elim old.2.1 old.2.2
    have tw2 : ∀ c, c = b ∨ Mx sl ll c ∨ c = t → ¬ Mx sl2 ll2 c := fun c hc z => by
      rcases z with z | z <;> subst z <;> rcases hc with e | (e | e) | e
      · exact n2b e
      · exact ol2.2.1 e
      · exact ol2.2.2 e
      · exact old2.2.1 e.symm
      · exact n3b e
      · exact ol3.2.1 e
      · exact ol3.2.2 e
      · exact old2.2.2 e.symm
    refine ⟨6, rfl, by decide, by decide, ?_⟩
    refine for_range (lo := 0) (n := 6) (fun i σ H' => ∃ (o1 : Option V) (pre' : List Sta) (s' : Sta) (log' : List PyData) (tr : List (Bool × Nat)) (acc : List V), σ = [some (.ref b), some (.ref a), some (.ref tw), some (.ref t), o1] ∧ Keep (fun c => c = b ∨ Mx sl ll c ∨ c = t) H2 H' ∧ BoxAt H' b (n + 2 * i) ∧ ShedAt A H' a sl ll (pre' ++ [s']) log' ∧ SOk s' 900 ∧
        pre'.length ≤ pre.length + i ∧ log'.length ≤ log.length + 2 * i ∧ H' t = some (.lst acc) ∧ DAs Tp H' (tr.map liftD) acc ∧ tr.length ≤ i ∧ liftsP st.lim st.ws st.L st.R tr = .ok (s'.L, s'.R) ∧ s'.lim = st.lim ∧ s'.ws = st.ws)
      ⟨none, pre, st, log, [], [], rfl, Keep.refl, hb2, h.same s02, ok, Nat.le_refl _, Nat.le_refl _, f2, DAs.nil, Nat.le_refl _, rfl, rfl, rfl⟩ ?_ ?_
    · rintro i σ H3 hi ⟨o1, pre', s', log', tr, acc, rfl, kk, hbx, hsh, ok', hp', hl', hta, hda, htl, hlp, el, ew⟩
      refine ⟨_, rfl, sh_at hsh ⟨a, sl, ll, pre', s', log', rfl, hsh, ok', fun H4 p xs s4 np hp hx => ?_⟩⟩
      refine ⟨fit' (by show 0 ≤ 1000000; decide), fun e he => ?_⟩
      have s5 : Same H4 (upd H4 e (.lst [])) := Same.new he
      have f5 : upd H4 e (.lst []) e = some (.lst []) := upd_same
      generalize upd H4 e (.lst []) = H5 at s5 f5
      have s35 := s4.trans s5
      have k5 := kk.trans (Keep.of s35)
      refine ne_nil (s5.at hp) (hx.same s5) f5 ⟨_, rfl, ?_⟩
      cases hc : can s'.lim s'.ws s'.L s'.R with
      | nil =>
        refine if_false_of rfl ?_
        exact ⟨_, pre', s', log', tr, acc, rfl, k5, (hbx.same s35).mono (by omega), hsh.same s35, ok', by omega, by omega, s35.at hta, hda.same s35, by omega, hlp, el, ew⟩
      | cons q0 qr =>
        refine if_true_of rfl ?_
        have hsh5 := hsh.same s35
        refine ⟨_, rfl, SqL.ty (s35.at hta), _, rfl, _, rfl, sh_at hsh5 ⟨a, sl, ll, pre', s', log', rfl, hsh5, ok', fun H6 p2 xs2 s6 np2 hp2 hx2 => ?_⟩⟩
        have hb6 := (hbx.same s35).same s6
        have npb : p2 ≠ b := fun z => by
          obtain ⟨_, _, _, e, _⟩ := hbx.same s35
          rw [z, e] at np2
          cases np2
        have xl : xs2.length = (can s'.lim s'.ws s'.L s'.R).length := by rw [hx2.length, List.length_map]
        have cle := can_le s'.lim s'.ws s'.L s'.R
        have cpos : 0 < (can s'.lim s'.ws s'.L s'.R).length := by rw [hc]; exact Nat.succ_pos _
        have fw := ok'.few
        have fl := ok'.le
        refine ⟨b, p2, _, xs2, rfl, hb6, by omega, hp2, npb, by omega, by omega, fun H7 j x k7 b7 hx7 => ?_⟩
        obtain ⟨d, hd, dx⟩ := hx2.getV hx7
        rw [List.getElem?_map] at hd
        cases hq : (can s'.lim s'.ws s'.L s'.R)[j]? with
        | none =>
          rw [hq] at hd
          cases hd
        | some q =>
          rw [hq] at hd
          obtain ⟨r', m'⟩ := q
          have ed : liftD (r', m') = d := Option.some.inj hd
          subst ed
          have hmem := List.mem_of_getElem? hq
          have hok := can_ok hmem
          have hta7 := k7.lst (s6.at (s35.at hta)) ntb
          have dx7 := dx.kp k7
          have k07 : Keep (fun c => c = b ∨ Mx sl ll c ∨ c = t) H2 H7 := (k5.trans (Keep.of s6)).trans (k7.mono fun _ z => .inl z)
          have hsh7 : ShedAt A H7 a sl ll (pre' ++ [s']) log' := (hsh5.same s6).kp k7 (fun z => nb (.inl z.symm)) fun z => nb (.inr z.symm)
          refine ⟨t, acc, x, rfl, rfl, hta7, ?_, ?_⟩
          · rw [hda.length, List.length_map]
            exact fit (by omega)
          · have k8 : Keep (fun c => c = t) H7 (upd H7 t (.lst (acc ++ [x]))) := Keep.set hta7 rfl
            have t8 : upd H7 t (.lst (acc ++ [x])) t = some (.lst (acc ++ [x])) := upd_same
            generalize upd H7 t (.lst (acc ++ [x])) = H8 at k8 t8
            have hsh8 := hsh7.kp k8 (fun z => old.2.1 z.symm) fun z => old.2.2 z.symm
            have b8 : BoxAt H8 b (n + 2 * i + 2) := b7.kp k8 fun z => ntb z.symm
            obtain ⟨z, rfl, hz⟩ := liftD_I (dx7.kp k8)
            have hda8 := (((hda.same s35).same s6).kp k7).kp k8
            refine ⟨_, rfl, sh_at hsh8 ?_⟩
            refine ⟨_, rfl, 1, rfl, t, _, _, _, rfl, rfl, .inr t8, atI_last _ _, z, _, 0, _, rfl, rfl, .inl hz, rfl, _, rfl, 1, rfl, t, _, _, _, rfl, rfl, .inr t8, atI_last _ _, z, _, 1, _, rfl, rfl, .inl hz, rfl, ?_⟩
            have ea : act s' (.lift r' m') = .ok (.int (wsum s'.ws (topN (pileOf s' r') m')), { s' with L := moveL s'.L s'.R r' m', R := moveR s'.L s'.R r' m' }) := by simp only [act, hok]
            refine ⟨a, sl, ll, pre', s', log', r', m', rfl, ⟨hsh8, ok', by omega, by omega, fun tt s'' e2 H9 v k9 h9 d9 => ?_, fun e e2 => ?_⟩⟩
            · rw [ea] at e2
              cases e2
              have k89 : Keep (fun c => c = b ∨ Mx sl ll c ∨ c = t) H8 H9 := k9.mono fun _ z => .inr (.inl z)
              refine ⟨_, pre' ++ [s'], _, _, tr ++ [(r', m')], acc ++ [.ref z], rfl, (k07.trans (k8.mono fun _ z => .inr (.inr z))).trans k89, (b8.kp k9 nb).mono (by omega), h9, ok'.lift hok, ?_, ?_, k9.lst t8 ntM, ?_, ?_, liftsP_snoc hlp (by rw [← el, ← ew]; exact hok), el, ew⟩
              · rw [List.length_append, List.length_singleton]
                omega
              · rw [List.length_append]
                show log'.length + 2 ≤ _
                omega
              · rw [List.map_append]
                exact (DAs.append hda8 (DAs.cons (dx7.kp k8) DAs.nil)).kp k9
              · rw [List.length_append, List.length_singleton]
                omega
            · rw [ea] at e2
              cases e2
    · rintro σ H3 ⟨o1, pre', s', log', tr, acc, rfl, kk, hbx, hsh, ok', hp', hl', hta, hda, htl, hlp, el, ew⟩
      have htw3 : ShedAt A H3 tw sl2 ll2 (pre ++ [st]) [] := (htw.same s2).kp kk (fun z => tw2 sl2 z (.inl rfl)) fun z => tw2 ll2 z (.inr rfl)
      have es : ({ st with L := s'.L, R := s'.R } : Sta) = s' := by
        cases s'
        simp only at el ew
        rw [← el, ← ew]
      have ea : act st (.liftAll tr) = .ok (.none, s') := by
        simp only [act, hlp]
        rw [es]
      refine ⟨_, rfl, sh_at htw3 ⟨_, rfl, ?_⟩⟩
      refine ⟨tw, sl2, ll2, t, acc, pre, st, [], tr, rfl, hta, tw2 t (.inr (.inr rfl)), hda, ⟨htw3, ok, by omega, by show 0 ≤ 10000; decide, fun tt s'' e2 H4 v k4 h4 d4 => ?_, fun e e2 => ?_⟩⟩
      · rw [ea] at e2
        cases e2
        have hsh4 : ShedAt A H4 a sl ll (pre' ++ [s']) log' := hsh.kp k4 (fun z => tw2 sl (.inr (.inl (.inl rfl))) z) fun z => tw2 ll (.inr (.inl (.inr rfl))) z
        refine ⟨_, rfl, _, rfl, h4.din hsh4 ok', fun H5 s5 => ⟨_, rfl, if_true_of rfl ?_⟩⟩
        have s5' : Same H4 H5 := s5
        have h5 := h4.same s5'
        have hsh5 := hsh4.same s5'
        refine ⟨_, rfl, sh_at h5 ⟨tw, sl2, ll2, _, s', _, rfl, h5, ok', fun H6 p1 xs1 s6 np1 hp1 hx1 => ?_⟩⟩
        have hsh6 := hsh5.same s6
        refine ⟨_, rfl, sh_at hsh6 ⟨a, sl, ll, pre', s', log', rfl, hsh6, ok', fun H7 p2 xs2 s7 np2 hp2 hx2 => ?_⟩⟩
        have d1 : DA Bt H7 (.list ((can s'.lim s'.ws s'.L s'.R).map liftD)) (.ref p1) := DA.lst (s7.at hp1) (fun z => z) (hx1.same s7).any
        have d2 : DA Bt H7 (.list ((can s'.lim s'.ws s'.L s'.R).map liftD)) (.ref p2) := DA.lst hp2 (fun z => z) hx2.any
        refine ⟨_, _, d1.dp, d2.dp, (pl_lifts (n := 0)).shaped (by decide), (pl_lifts (n := 0)).shaped (by decide), ?_⟩
        rw [(pl_lifts (n := 0)).eqv]
        refine ⟨_, rfl, if_true_of rfl ?_⟩
        have h7 := (h5.same s6).same s7
        refine ⟨_, rfl, sh_at h7 ⟨tw, sl2, ll2, _, s', _, rfl, h7, ok', fun H8 v1 s8 e1 => ?_⟩⟩
        have hsh8 := (hsh6.same s7).same s8
        refine ⟨_, rfl, sh_at hsh8 ⟨a, sl, ll, pre', s', log', rfl, hsh8, ok', fun H9 v2 s9 e2 => ?_⟩⟩
        refine ⟨_, _, (e1.same s9).dp, e2.dp, (pl_stateD (n := 0)).shaped (by decide), (pl_stateD (n := 0)).shaped (by decide), ?_⟩
        rw [(pl_stateD (n := 0)).eqv]
        have s49 := (((s5'.trans s6).trans s7).trans s8).trans s9
        have kall : Keep (fun c => (c = b ∨ Mx sl ll c ∨ c = t) ∨ Mx sl2 ll2 c) H2 H9 := ((kk.mono fun _ z => .inl z).trans (k4.mono fun _ z => .inr z)).trans (Keep.of s49)
        refine k H9 (Keep.drop ((Keep.of s02).trans kall) fun c z => ?_)
        rcases z with (z | z | z) | z | z
        · exact .inl (.inl z)
        · exact .inl (.inr z)
        · exact .inr (z ▸ ft)
        · exact .inr (z ▸ n2)
        · exact .inr (z ▸ n3)
      · rw [ea] at e2
        cases e2
end
end Tw
set_option Elab.async false
set_option linter.all false
set_option maxRecDepth 100000
set_option maxHeartbeats 4000000
/-! plain laws of the chain of states -/
namespace Tw
open PySem PySem.Spec PyProof.Rows L2
theorem act_ok {s s' : Sta} {n : Nat} {d : Deed} {t : PyData} (h : SOk s n) (hd : DeedOk d) (e : act s d = .ok (t, s')) : SOk s' (n + 1) := by
  have hf := h.few
  have hl := h.le
  have put : ∀ (w : Int) (r : Bool), 1 ≤ w ∧ w ≤ 1000000000 → SOk (putS s w r) (n + 1) := fun w r hw => by
    refine ⟨?_, ?_, ?_, ?_, h.bd.1, fun x hx => ?_⟩
    · cases r
      · exact h.iL.new w
      · exact h.iL.put w
    · cases r
      · exact h.iR.put w
      · exact h.iR.new w
    · cases r
      · show (s.L ++ [_]).length + s.R.length ≤ (s.ws ++ [w]).length
        rw [List.length_append, List.length_append, List.length_singleton, List.length_singleton]
        omega
      · show s.L.length + (s.R ++ [_]).length ≤ (s.ws ++ [w]).length
        rw [List.length_append, List.length_append, List.length_singleton, List.length_singleton]
        omega
    · show (s.ws ++ [w]).length ≤ n + 1
      rw [List.length_append, List.length_singleton]
      omega
    · rcases List.mem_append.mp (show x ∈ s.ws ++ [w] from hx) with hx | hx
      · exact h.bd.2 x hx
      · rw [List.mem_singleton.mp hx]
        omega
  cases d with
  | put w r =>
    cases (show Except.ok (PyData.int s.ws.length, putS s w r) = Except.ok (t, s') from e)
    exact put w r hd
  | putP w =>
    cases (show Except.ok (PyData.int s.ws.length, putS s w false) = Except.ok (t, s') from e)
    exact put w false hd
  | take r =>
    simp only [act] at e
    cases hg : (pileOf s r).getLast? with
    | none =>
      rw [hg] at e
      cases e
    | some i =>
      rw [hg] at e
      cases e
      have l1 := List.length_filter_le (fun j => j != i) s.L
      have l2 := List.length_filter_le (fun j => j != i) s.R
      exact ⟨fun j hj => h.iL j (List.mem_filter.mp hj).1, fun j hj => h.iR j (List.mem_filter.mp hj).1, by show (s.L.filter fun j => j != i).length + (s.R.filter fun j => j != i).length ≤ s.ws.length; omega, by show s.ws.length ≤ n + 1; omega, h.bd⟩
  | lift r m =>
    simp only [act] at e
    cases hg : liftP s.lim s.ws s.L s.R r m with
    | error z =>
      rw [hg] at e
      cases e
    | ok q =>
      rw [hg] at e
      cases e
      exact (h.lift hg).mono (by omega)
  | liftAll tr =>
    simp only [act] at e
    cases hg : liftsP s.lim s.ws s.L s.R tr with
    | error z =>
      rw [hg] at e
      cases e
    | ok q =>
      rw [hg] at e
      cases e
      obtain ⟨⟨g1, g2⟩, g3⟩ := liftsP_good hg h.iL h.iR
      exact ⟨g1, g2, by show q.1.length + q.2.length ≤ s.ws.length; omega, by show s.ws.length ≤ n + 1; omega, h.bd⟩
  | setL l =>
    cases (show Except.ok (PyData.int s.lim, { s with lim := l }) = Except.ok (t, s') from e)
    have h1 : 1 ≤ l ∧ l ≤ 1000000000 := hd
    exact ⟨h.iL, h.iR, hf, by show s.ws.length ≤ n + 1; omega, ⟨by show (0 : Int) ≤ l; omega, h1.2⟩, h.bd.2⟩
/-- what is told of a success: an int or None -/
def tOk (t : PyData) : Prop := t = .none ∨ ∃ i, t = .int i
theorem act_t {s s' : Sta} {d : Deed} {t : PyData} (e : act s d = .ok (t, s')) : tOk t := by
  cases d with
  | put w r =>
    cases (show Except.ok (PyData.int s.ws.length, putS s w r) = Except.ok (t, s') from e)
    exact .inr ⟨_, rfl⟩
  | putP w =>
    cases (show Except.ok (PyData.int s.ws.length, putS s w false) = Except.ok (t, s') from e)
    exact .inr ⟨_, rfl⟩
  | take r =>
    simp only [act] at e
    cases hg : (pileOf s r).getLast? with
    | none =>
      rw [hg] at e
      cases e
    | some i =>
      rw [hg] at e
      cases e
      exact .inr ⟨_, rfl⟩
  | lift r m =>
    simp only [act] at e
    cases hg : liftP s.lim s.ws s.L s.R r m with
    | error z =>
      rw [hg] at e
      cases e
    | ok q =>
      rw [hg] at e
      cases e
      exact .inr ⟨_, rfl⟩
  | liftAll tr =>
    simp only [act] at e
    cases hg : liftsP s.lim s.ws s.L s.R tr with
    | error z =>
      rw [hg] at e
      cases e
    | ok q =>
      rw [hg] at e
      cases e
      exact .inl rfl
  | setL l =>
    cases (show Except.ok (PyData.int s.lim, { s with lim := l }) = Except.ok (t, s') from e)
    exact .inr ⟨_, rfl⟩
/-! ### the chain of states behind the deeds -/
structure Ch (s0 : Sta) (ds : List (Deed × PyData)) (sts : List Sta) : Prop where
  z : sts[0]? = some s0
  len : sts.length = ds.length + 1
  st : ∀ (i : Nat) d t, ds[i]? = some (d, t) → ∃ s1 s2, sts[i]? = some s1 ∧ sts[i + 1]? = some s2 ∧ act s1 d = .ok (t, s2)
theorem Ch.nil {s0 : Sta} : Ch s0 [] [s0] := ⟨rfl, rfl, fun i d t h => by simp at h⟩
theorem Ch.snoc {s0 c c' : Sta} {ds : List (Deed × PyData)} {pre : List Sta} {d : Deed} {t : PyData} (h : Ch s0 ds (pre ++ [c])) (e : act c d = .ok (t, c')) : Ch s0 (ds ++ [(d, t)]) ((pre ++ [c]) ++ [c']) := by
  have hl : pre.length = ds.length := by
    have := h.len
    rw [List.length_append, List.length_singleton] at this
    omega
  refine ⟨?_, ?_, fun i d' t' hi => ?_⟩
  · rw [List.getElem?_append_left (by rw [h.len]; omega)]
    exact h.z
  · have := h.len
    simp only [List.length_append, List.length_singleton] at this ⊢
    omega
  · by_cases hlt : i < ds.length
    · rw [List.getElem?_append_left hlt] at hi
      obtain ⟨s1, s2, g1, g2, g3⟩ := h.st i d' t' hi
      exact ⟨s1, s2, by rw [List.getElem?_append_left (by rw [h.len]; omega)]; exact g1, by rw [List.getElem?_append_left (by rw [h.len]; omega)]; exact g2, g3⟩
    · have hi2 : i = ds.length := by
        have := (List.getElem?_eq_some_iff.mp hi).1
        rw [List.length_append, List.length_singleton] at this
        omega
      subst hi2
      rw [List.getElem?_append_right (Nat.le_refl _), Nat.sub_self] at hi
      cases (Option.some.inj hi)
      refine ⟨c, c', ?_, ?_, e⟩
      · rw [List.getElem?_append_left (by rw [h.len]; omega), ← hl, List.getElem?_append_right (Nat.le_refl _), Nat.sub_self]
        rfl
      · rw [List.getElem?_append_right (by rw [h.len]; omega), h.len, Nat.sub_self]
        rfl
theorem Ch.back {s0 : Sta} {ds : List (Deed × PyData)} {sts : List Sta} (h : Ch s0 ds sts) (hn : ds ≠ []) : Ch s0 ds.dropLast sts.dropLast := by
  have hp : 0 < ds.length := List.length_pos_iff.mpr hn
  have hl := h.len
  refine ⟨?_, ?_, fun i d t hi => ?_⟩
  · rw [List.dropLast_eq_take, List.getElem?_take, if_pos (by omega)]
    exact h.z
  · rw [List.length_dropLast, List.length_dropLast]
    omega
  · have hlt := (List.getElem?_eq_some_iff.mp hi).1
    rw [List.length_dropLast] at hlt
    rw [List.dropLast_eq_take, List.getElem?_take, if_pos hlt] at hi
    obtain ⟨s1, s2, g1, g2, g3⟩ := h.st i d t hi
    exact ⟨s1, s2, by rw [List.dropLast_eq_take, List.getElem?_take, if_pos (by omega)]; exact g1, by rw [List.dropLast_eq_take, List.getElem?_take, if_pos (by omega)]; exact g2, g3⟩
theorem Ch.ne {s0 : Sta} {ds : List (Deed × PyData)} {sts : List Sta} (h : Ch s0 ds sts) : sts ≠ [] := fun z => by
  have := h.len
  rw [z] at this
  simp at this
theorem Ch.tok {s0 : Sta} {ds : List (Deed × PyData)} {sts : List Sta} (h : Ch s0 ds sts) {i : Nat} {d : Deed} {t : PyData} (hi : ds[i]? = some (d, t)) : tOk t := by
  obtain ⟨_, _, _, _, g⟩ := h.st i d t hi
  exact act_t g
/-- what stands of a success: the deed, what was told -/
def stD (q : Deed × PyData) : PyData := .tuple [q.1.D, toldD q.2]
theorem pl_side {r : Bool} {n : Nat} : Pl n (.str (sd r)) := by
  refine ⟨?_, by simp only [PyData.depth]; omega⟩
  cases r
  · show PyData.canLay0 (.str ("left" : Str)) = true
    decide +kernel
  · show PyData.canLay0 (.str ("right" : Str)) = true
    decide +kernel
theorem pl_str {x : Str} {n : Nat} (h : PyData.canLay0 (.str x) = true) : Pl n (.str x) := ⟨h, by simp only [PyData.depth]; omega⟩
theorem pl_name (d : Deed) : PyData.canLay0 (.str d.name) = true := by
  cases d <;> (simp only [Deed.name]; decide +kernel)
theorem pl_of {n : Nat} {ds : List PyData} (h : ∀ d ∈ ds, Pl n d) : Pl (n + 1) (.tuple ds) := Pl.tup h
theorem pl_deed (d : Deed) : Pl 3 d.D := by
  cases d with
  | put w r => 
    refine Pl.tup fun x hx => ?_
    simp only [List.mem_cons, List.not_mem_nil, or_false] at hx
    rcases hx with e | e | e
    · exact e ▸ pl_str (by decide +kernel)
    · exact e ▸ Pl.int
    · exact e ▸ pl_side
  | putP w => 
    refine Pl.tup fun x hx => ?_
    simp only [List.mem_cons, List.not_mem_nil, or_false] at hx
    rcases hx with e | e | e | e
    · exact e ▸ pl_str (by decide +kernel)
    · exact e ▸ Pl.int
    · exact e ▸ pl_str (by decide +kernel)
    · exact e ▸ pl_str (by decide +kernel)
  | take r => 
    refine Pl.tup fun x hx => ?_
    simp only [List.mem_cons, List.not_mem_nil, or_false] at hx
    rcases hx with e | e
    · exact e ▸ pl_str (by decide +kernel)
    · exact e ▸ pl_side
  | lift r m => 
    refine Pl.tup fun x hx => ?_
    simp only [List.mem_cons, List.not_mem_nil, or_false] at hx
    rcases hx with e | e | e
    · exact e ▸ pl_str (by decide +kernel)
    · exact e ▸ pl_side
    · exact e ▸ Pl.int
  | liftAll t => 
    refine Pl.tup fun x hx => ?_
    simp only [List.mem_cons, List.not_mem_nil, or_false] at hx
    rcases hx with e | e
    · exact e ▸ pl_str (by decide +kernel)
    · exact e ▸ pl_lifts (n := 0)
  | setL l => 
    refine Pl.tup fun x hx => ?_
    simp only [List.mem_cons, List.not_mem_nil, or_false] at hx
    rcases hx with e | e
    · exact e ▸ pl_str (by decide +kernel)
    · exact e ▸ Pl.int
theorem pl_told {n : Nat} {t : PyData} (h : tOk t) : Pl (n + 1) (toldD t) := Pl.tup fun x hx => by
  simp only [List.mem_cons, List.not_mem_nil, or_false] at hx
  rcases hx with e | e
  · exact e ▸ pl_str (by decide +kernel)
  · subst e
    rcases h with e | ⟨i, e⟩
    · exact e ▸ Pl.non
    · exact e ▸ Pl.int
theorem pl_stood {ds : List (Deed × PyData)} (h : ∀ q ∈ ds, tOk q.2) : Pl 5 (.list (ds.map stD)) := Pl.lst fun d hd => by
  obtain ⟨q, hq, e⟩ := List.mem_map.mp hd
  rw [← e]
  refine Pl.tup fun x hx => ?_
  simp only [List.mem_cons, List.not_mem_nil, or_false] at hx
  rcases hx with e | e
  · exact e ▸ pl_deed _
  · exact e ▸ pl_told (n := 2) (h q hq)
theorem sm_told {n : Nat} {t : PyData} (h : tOk t) : Sm (n + 1) (toldD t) := Sm.tup (by simp) fun x hx => by
  simp only [List.mem_cons, List.not_mem_nil, or_false] at hx
  rcases hx with e | e
  · exact e ▸ Sm.str
  · subst e
    rcases h with e | ⟨i, e⟩
    · exact e ▸ Sm.non
    · exact e ▸ Sm.int
theorem sm_ints {n : Nat} {ns : List Int} (h : ns.length ≤ 100000) : Sm (n + 1) (tI ns) := Sm.tup (by rw [List.length_map]; exact h) fun x hx => by
  obtain ⟨i, _, e⟩ := List.mem_map.mp hx
  exact e ▸ Sm.int
theorem sm_pD {n : Nat} {L R : List Int} (h1 : L.length ≤ 100000) (h2 : R.length ≤ 100000) : Sm (n + 2) (pD L R) := Sm.tup (by simp) fun x hx => by
  simp only [List.mem_cons, List.not_mem_nil, or_false] at hx
  rcases hx with e | e
  · exact e ▸ sm_ints h1
  · exact e ▸ sm_ints h2
theorem sm_seen {s : Sta} {n : Nat} (ok : SOk s 900) : Sm 4 (seenD s n) := by
  have f1 := ok.few
  have f2 := ok.le
  have epl := present_len s
  refine Sm.lst (by simp) fun x hx => ?_
  simp only [List.mem_cons, List.not_mem_nil, or_false] at hx
  rcases hx with e | e | e | e | e | e | e | e
  · exact e ▸ Sm.int
  · exact e ▸ sm_pD (n := 1) (by omega) (by omega)
  · rw [e]
    refine Sm.lst (by unfold weightsL; rw [List.length_map]; omega) fun y hy => ?_
    obtain ⟨i, _, e2⟩ := List.mem_map.mp hy
    rw [← e2]
    refine Sm.tup (by simp) fun z hz => ?_
    simp only [List.mem_cons, List.not_mem_nil, or_false] at hz
    rcases hz with e | e
    · exact e ▸ Sm.int
    · exact e ▸ Sm.int
  · rw [e]
    refine Sm.tup (by simp) fun y hy => ?_
    simp only [List.mem_cons, List.not_mem_nil, or_false] at hy
    rcases hy with e | e
    · rw [e]
      refine Sm.tup (by simp) fun z hz => ?_
      simp only [List.mem_cons, List.not_mem_nil, or_false] at hz
      rcases hz with e | e
      · exact e ▸ Sm.int
      · exact e ▸ sm_ints (n := 0) (by rw [List.length_map]; omega)
    · exact e ▸ sm_pD (n := 0) (by unfold idxD; rw [List.length_map]; omega) (by unfold idxD; rw [List.length_map]; omega)
  · rw [e]
    have := can_le s.lim s.ws s.L s.R
    refine Sm.lst (by rw [List.length_map]; omega) fun y hy => ?_
    obtain ⟨q, _, e2⟩ := List.mem_map.mp hy
    rw [← e2]
    refine Sm.tup (by simp) fun z hz => ?_
    simp only [List.mem_cons, List.not_mem_nil, or_false] at hz
    rcases hz with e | e
    · exact e ▸ Sm.str
    · exact e ▸ Sm.int
  · exact e ▸ Sm.int
  · exact e ▸ Sm.int
  · exact e ▸ Sm.str
/-! ### the log -/
def logF (ws : List Str) : List PyData := ws.flatMap logD
theorem logF_snoc (ws : List Str) (x : Str) : logF ws ++ logD x = logF (ws ++ [x]) := by
  unfold logF
  rw [List.flatMap_append]
  simp
theorem logF_len : ∀ ws : List Str, (logF ws).length = 2 * ws.length
  | [] => rfl
  | x :: ws => by
    have ih := logF_len ws
    unfold logF at ih ⊢
    rw [List.flatMap_cons, List.length_append, ih, List.length_cons]
    show 2 + 2 * ws.length = 2 * (ws.length + 1)
    omega
theorem logF_at : ∀ {ws : List Str} {j : Nat} {d : PyData}, (logF ws)[j]? = some d → ∃ q x, ws[q]? = some x ∧ ((j = 2 * q ∧ d = lgD "in" x) ∨ (j = 2 * q + 1 ∧ d = lgD "out" x))
  | [], j, d, h => by simp [logF] at h
  | x :: ws, 0, d, h => by
    have e : lgD "in" x = d := Option.some.inj h
    exact ⟨0, x, rfl, .inl ⟨rfl, e.symm⟩⟩
  | x :: ws, 1, d, h => by
    have e : lgD "out" x = d := Option.some.inj h
    exact ⟨0, x, rfl, .inr ⟨rfl, e.symm⟩⟩
  | x :: ws, j + 2, d, h => by
    have h2 : (logF ws)[j]? = some d := h
    obtain ⟨q, y, h3, h4⟩ := logF_at h2
    refine ⟨q + 1, y, h3, ?_⟩
    rcases h4 with ⟨e1, e2⟩ | ⟨e1, e2⟩
    · exact .inl ⟨by omega, e2⟩
    · exact .inr ⟨by omega, e2⟩
theorem cut_last (xs : List V) : cutV xs none (some (-1)) = xs.dropLast := by
  unfold cutV
  rw [HT.sIx_none, List.drop_zero, Nat.sub_zero, List.dropLast_eq_take]
  congr 1
  show (if (-1 : Int) < 0 then ((-1 : Int) + (xs.length : Int)).toNat else min (-1 : Int).toNat xs.length) = xs.length - 1
  rw [if_pos (by decide)]
  omega
theorem deed_first {M : Addr → Prop} {H : Hp} {d : Deed} {v : V} (h : DA M H d.D v) : ∃ a xs, v = .ref a ∧ H a = some (.tup (V.str d.name :: xs)) := by
  cases d with
  | put w r =>
    obtain ⟨a, u, w, p, e, h1, d1, _⟩ := deed3 h
    cases d1.strI
    exact ⟨a, _, e, h1⟩
  | putP w =>
    obtain ⟨a, u, w, p, q, e, h1, d1, _⟩ := deed4 h
    cases d1.strI
    exact ⟨a, _, e, h1⟩
  | take r =>
    obtain ⟨a, u, w, e, h1, d1, _⟩ := deed2 h
    cases d1.strI
    exact ⟨a, _, e, h1⟩
  | lift r m =>
    obtain ⟨a, u, w, p, e, h1, d1, _⟩ := deed3 h
    cases d1.strI
    exact ⟨a, _, e, h1⟩
  | liftAll t =>
    obtain ⟨a, u, w, e, h1, d1, _⟩ := deed2 h
    cases d1.strI
    exact ⟨a, _, e, h1⟩
  | setL l =>
    obtain ⟨a, u, w, e, h1, d1, _⟩ := deed2 h
    cases d1.strI
    exact ⟨a, _, e, h1⟩
end Tw
set_option Elab.async false
set_option linter.all false
set_option maxRecDepth 100000
set_option maxHeartbeats 4000000
/-! right: the whole history, and a shed made anew -/
namespace Tw
open PySem PySem.Spec PyProof.Rows L2
def spRight (A : Ad) : Sp := fun vs H Q _ => ∃ (b : Addr), vs = [.ref b] ∧ BoxAt H b 0 ∧ ∀ H', Keep (Mb b) H H' → Q (.bl true) H'
/-- what a law's own states are -/
def LsAt (H : Hp) (n : Nat) (v : V) : Prop := ∃ lim ws L R, DA Tp H (LsD lim ws L R) v ∧ LsOk lim ws L R n
theorem LsAt.kp {M : Addr → Prop} {H H' : Hp} {n : Nat} {v : V} (h : LsAt H n v) (k : Keep M H H') : LsAt H' n v := by
  obtain ⟨lim, ws, L, R, h1, h2⟩ := h
  exact ⟨lim, ws, L, R, h1.kp k, h2⟩
theorem LsAt.mono {H : Hp} {n m : Nat} {v : V} (h : LsAt H n v) (l : n ≤ m) : LsAt H m v := by
  obtain ⟨lim, ws, L, R, h1, h2⟩ := h
  exact ⟨lim, ws, L, R, h1, h2.mono l⟩
theorem DAs.dropLast {M : Addr → Prop} {H : Hp} {ds : List PyData} {xs : List V} (h : DAs M H ds xs) : DAs M H ds.dropLast xs.dropLast := by
  rw [List.dropLast_eq_take, List.dropLast_eq_take, h.length]
  exact h.take _
/-- one operation back -/
theorem ch_undo {s0 : Sta} {ds : List (Deed × PyData)} {sts : List Sta} (h : Ch s0 ds sts) : ∃ pre c, (if 1 < sts.length then sts.dropLast else sts) = pre ++ [c] ∧ Ch s0 ds.dropLast (pre ++ [c]) ∧ ∀ s ∈ pre ++ [c], s ∈ sts := by
  have hl := h.len
  by_cases e : ds = []
  · subst e
    rw [if_neg (by simp at hl; omega)]
    obtain ⟨pre, c, e2⟩ := last_split h.ne
    exact ⟨pre, c, e2, by rw [← e2]; exact h, by rw [← e2]; exact fun s hs => hs⟩
  · have hp : 0 < ds.length := List.length_pos_iff.mpr e
    rw [if_pos (by omega)]
    have b := h.back e
    obtain ⟨pre, c, e2⟩ := last_split b.ne
    exact ⟨pre, c, e2, by rw [← e2]; exact b, by rw [← e2]; exact fun s hs => List.dropLast_subset _ hs⟩
theorem ch_bool {s0 : Sta} {ds : List (Deed × PyData)} {sts : List Sta} (h : Ch s0 ds sts) : decide (1 < sts.length) = !(ds.map stD).isEmpty := by
  have hl := h.len
  cases ds with
  | nil => exact decide_eq_false (by simp at hl; omega)
  | cons d r => exact decide_eq_true (by simp at hl; omega)
theorem cut_max {lv : List V} : ∃ m : Nat, 1 ≤ m ∧ cutV lv none (some (if (lv.length : Int) - 1 > 1 then (lv.length : Int) - 1 else 1)) = lv.take m := by
  by_cases c : (lv.length : Int) - 1 > 1
  · refine ⟨lv.length - 1, by omega, ?_⟩
    rw [if_pos c, show (lv.length : Int) - 1 = ((lv.length - 1 : Nat) : Int) by omega, cut_to]
  · refine ⟨1, Nat.le_refl _, ?_⟩
    rw [if_neg c]
    exact cut_to lv 1
theorem named_ne (e : Er) {H : Hp} {v : V} (h : DA Tp H (namedD e) v) : ∃ a x y, v = .ref a ∧ H a = some (.tup [.str x, y]) ∧ ¬ (x = ("told" : Str)) := by
  cases e with
  | few n =>
    obtain ⟨a, u, w, e, h1, d1, _⟩ := deed2 h
    cases d1.strI
    exact ⟨a, _, w, e, h1, by decide +kernel⟩
  | heavy n =>
    obtain ⟨a, u, w, e, h1, d1, _⟩ := deed2 h
    cases d1.strI
    exact ⟨a, _, w, e, h1, by decide +kernel⟩
  | empty n =>
    obtain ⟨a, u, w, e, h1, d1, _⟩ := deed2 h
    cases d1.strI
    exact ⟨a, _, w, e, h1, by decide +kernel⟩
theorem not_dec {p : Prop} [Decidable p] (h : p) : (!decide p) = false := by
  rw [decide_eq_true h]
  rfl
theorem take_back {α : Type} {l : List α} {k : Nat} (h : k + 1 ≤ l.length) : (l.take (k + 1)).dropLast = l.take k := by
  rw [List.dropLast_eq_take, List.length_take, List.take_take]
  congr 1
  omega
theorem take_one {s0 : Sta} {sts : List Sta} (h : sts[0]? = some s0) : sts.take 1 = [s0] := by
  have := take_more h
  simpa using this
theorem at_zero (x : V) (xs : List V) : atI (x :: xs) 0 = some x := atI_nat (xs := x :: xs) (j := 0) rfl
theorem words_eq {H : Hp} {M : Addr → Prop} {a : Addr} {ws : List Str} (h : H a = some (.lst (ws.map V.str))) (n : ¬ M a) : DA M H (.list (ws.map .str)) (.ref a) := by
  refine DA.lst h n ?_
  induction ws with
  | nil => exact DAs.nil
  | cons x r ih => exact DAs.cons DA.str (by
      clear ih h n
      induction r with
      | nil => exact DAs.nil
      | cons y r ih => exact DAs.cons DA.str ih)
theorem pl_words {ws : List Str} (h : ∀ x ∈ ws, PyData.canLay0 (.str x) = true) : Pl 1 (.list (ws.map .str)) := Pl.lst fun d hd => by
  obtain ⟨x, hx, e⟩ := List.mem_map.mp hd
  exact e ▸ pl_str (h x hx)
section
variable {P : Program} {w : World} {K : PySem.W.Frag} {mg : Str → Option Value} {base : Heap} {A : Ad}
theorem sc_right : FnScope ["_law_box_here", "_law_bulk", "_law_barn", "_law_stood", "_law_words", "_law_now", "_law_states", "_law_turn", "_law_deed_here", "_law_told", "_law_log", "_law_side_so", "_law_word", "_law_anew", "_law_at", "_law_twin"] ["_law_box_here"] (defScope s_right) := ⟨rfl, rfl, rfl, by decide +kernel, rfl, by decide +kernel, by decide +kernel⟩
structure GR (P : Program) (w : World) (K : PySem.W.Frag) (mg : Str → Option Value) (base : Heap) (A : Ad) : Prop where
  take : Cal P w K mg base CX0 2 A.take ["_law_box_here", "_law_below"] (spTk 10000000000000 2)
  of : Cal P w K mg base CX0 3 A.ofL ["_law_box_here", "_law_some"] spOf
  shInit : Cal P w K mg base CX0 4 A.Sh_init ["self", "limit"] (spShInit A)
  undo : Cal P w K mg base CX0 2 A.Sh_undo ["self"] (spUndo A)
  deed : Cal P w K mg base CX0 5 A.deed ["_law_box_here", "_law_now"] spDeed
  asked : Cal P w K mg base CX0 7 A.asked ["_law_barn", "_law_deed_here"] (spAsked A)
  expect : Cal P w K mg base CX0 2 A.expect ["_law_now", "_law_deed_here"] spExpect
  log : Cal P w K mg base CX0 1 A.Sh_log ["self"] (spLog A)
  same : Cal P w K mg base CX0 5 A.same ["_law_found", "_law_due"] (spSame 4)
  seen : Cal P w K mg base CX0 6 A.seen ["_law_barn"] (spSeen A)
  asOf : Cal P w K mg base CX0 6 A.Sh_as_of ["self", "many"] (spAsOf A)
  eq : Cal P w K mg base CX0 3 A.Sh_eq ["self", "other"] (spEq A)
  twin : Cal P w K mg base CX0 7 A.Sh_twin ["self"] (spTwin A)
  row : Cal P w K mg base CX0 8 A.rowRight ["_law_box_here", "_law_barn"] (spRow A)
theorem ok_right {f : Addr} {fd : FuncData} (F : Fun K "_law_right" "_law_right" s_right f fd) (T : TxG K mg A) (TC : TxC K A) (G : GR P w K mg base A) : FnOk P w K mg base CX0 9 f fd ["_law_box_here"] (spRight A) := by
  obtain ⟨fde, Fe, kpe, be⟩ := G.eq
  refine F.ok sc_right (fun vs H Q E h => ?_) (fun cdv A' outer s H vs Q E hr h => ?_)
  · obtain ⟨b, rfl, _⟩ := h
    rfl
  · obtain ⟨b, rfl, hb, k⟩ := h
    have hr1 := hr.mono (j := 1) (by decide)
    have hr2 := hr.mono (j := 2) (by decide)
    have hr3 := hr.mono (j := 3) (by decide)
    have hr4 := hr.mono (j := 4) (by decide)
    have hr5 := hr.mono (j := 5) (by decide)
    have hr6 := hr.mono (j := 6) (by decide)
    have hr7 := hr.mono (j := 7) (by decide)
    refine ⟨_, pss_cons (ps_set (i := 1) sc_right.nd rfl (.inl rfl) (pe_op op_add pe_int (pe_fn G.take hr2 T.g_take (pa_cons (pv 0) (pa_cons (pe_fn G.of hr3 T.g_ofL (pa_cons (pv 0) (pa_cons (pe_lst (pa_cons pe_int (pa_cons pe_int (pa_cons pe_int pa_nil)))) pa_nil))) pa_nil))))) <|
      pss_cons (ps_asg (pe_tup (pa_cons (pe_mk G.shInit TC.mk_Shed hr5 T.g_cShed (pa_cons (pv 1) pa_nil)) (pa_cons (pe_lst pa_nil) (pa_cons (pe_lst pa_nil) (pa_cons (pe_tup (pa_cons (pv 1) (pa_cons (pe_tup (pa_cons (pe_tup pa_nil) (pa_cons (pe_tup pa_nil) pa_nil))) (pa_cons (pe_tup pa_nil) pa_nil)))) pa_nil)))))
        (pg_tup rfl (pgs_cons (pg_name (i := 2) sc_right.nd rfl (.inl rfl)) (pgs_cons (pg_name (i := 3) sc_right.nd rfl (.inl rfl)) (pgs_cons (pg_name (i := 4) sc_right.nd rfl (.inl rfl)) (pgs_cons (pg_name (i := 5) sc_right.nd rfl (.inl rfl)) pgs_nil)))))) <|
      pss_cons (ps_set (i := 6) sc_right.nd rfl (.inl rfl) (pe_lst (pa_cons (pv 5) pa_nil))) <|
      C8.pss_cut (ps_for PassesOwn.never rfl (pi_range1 (by rfl) T.z_range (pa_cons (pe_op op_add pe_int (pe_fn G.take hr2 T.g_take (pa_cons (pv 0) (pa_cons pe_int pa_nil)))) pa_nil)) (pg_name (i := 7) sc_right.nd rfl (.inl rfl))
        (pss_one (ps_if (pt_cmpR op_eq (pe_fn G.take hr2 T.g_take (pa_cons (pv 0) (pa_cons pe_int pa_nil))) pe_int (nomark _))
          (pss_cons (ps_if (pt_cmpR op_ne (pe_mt0 G.undo TC.cl_Shed TC.m_Sh_undo hr2 (pv 2)) (pe_cmpR (op_neD hr.units) (pv 3) (pe_lst pa_nil) (nomark _)) (nomark _)) (pss_one ps_never) pss_nil) <|
            pss_cons (ps_par (i := 3) (j := 6) rfl sc_right.nd rfl rfl (by decide) rfl rfl (pa_cons (pe_slice sl_list (pv 3) po_none (po_some (pe_un un_neg pe_int))) (pa_cons (pe_slice sl_list (pv 6) po_none (po_some (pe_callB (call_max2 rfl) (by rfl) T.z_max PyProof.Rows.boot_max (pa_cons pe_int (pa_cons (pe_op op_sub (pe_len T.z_len (pv 6)) pe_int) pa_nil))))) pa_nil)) (by rfl)) <|
            pss_one (ps_expr (pe_bm PySem.F.plainAttrs_list PySem.F.slot_list_append PySem.F.type_list_append mt_append (pv 4) (pa_cons pe_str pa_nil))))
          (pss_cons (ps_set (i := 8) sc_right.nd rfl (.inl rfl) (pe_fn G.deed hr5 T.g_deed (pa_cons (pv 0) (pa_cons (pe_at (pv 6) (pe_un un_neg pe_int)) pa_nil)))) <|
            pss_cons (ps_set (i := 9) sc_right.nd rfl (.inl rfl) (pe_fn G.asked hr7 T.g_asked (pa_cons (pv 2) (pa_cons (pv 8) pa_nil)))) <|
            C8.pss_cut (ps_if (pt_cmpR op_eq (pe_at (pv 9) pe_int) pe_str (nomark _)) (pss_one (ps_par (i := 3) (j := 6) rfl sc_right.nd rfl rfl (by decide) rfl rfl (pa_cons (pe_op op_cat (pv 3) (pe_lst (pa_cons (pe_tup (pa_cons (pv 8) (pa_cons (pv 9) pa_nil))) pa_nil))) (pa_cons (pe_op op_cat (pv 6) (pe_lst (pa_cons (pe_at (pe_fn G.expect hr2 T.g_expect (pa_cons (pe_at (pv 6) (pe_un un_neg pe_int)) (pa_cons (pv 8) pa_nil))) pe_int) pa_nil))) pa_nil)) (by rfl))) pss_nil) <|
            pss_one (ps_expr (pe_bm PySem.F.plainAttrs_list PySem.F.slot_list_append PySem.F.type_list_append mt_append (pv 4) (pa_cons (pe_at (pv 8) pe_int) pa_nil))))))) <|
      pss_cons (ps_set (i := 10) sc_right.nd rfl (.inl rfl) (pe_mt0 G.log TC.cl_Shed TC.m_Sh_log hr1 (pv 2))) <|
      pss_cons (ps_if (PW.pt (pw_or (pt_cmpR op_ne (pe_len T.z_len (pv 10)) (pe_op op_mul pe_int (pe_len T.z_len (pv 4))) (nomark _)) (pw_or1 (pt_cmpR (op_neD hr.units) (pe_lc (own := [("_law_side_so", 11), ("_law_word", 12)]) (g := gTup K 2 (gCons (gName 11) (gCons (gName 12) gNil))) (te := tVar 12) rfl sc_right.nd (pi_list (pv 10)) (blkOk_by (N := ["_law_box_here", "_law_bulk", "_law_barn", "_law_stood", "_law_words", "_law_now", "_law_states", "_law_turn", "_law_deed_here", "_law_told", "_law_log", "_law_side_so", "_law_word", "_law_anew", "_law_at", "_law_twin"]) (sc := defScope s_right) (by decide +kernel))
          (fun _ _ _ _ _ => pg_tup rfl (pgs_cons (pg_name (i := 11) sc_right.nd rfl (Or.inl rfl)) (pgs_cons (pg_name (i := 12) sc_right.nd rfl (Or.inl rfl)) pgs_nil))) (fun _ _ _ _ _ => pts_one (pt_cmpR op_eq (pv 11) pe_str (nomark _))) (fun _ _ _ _ _ => pv 12)) (pv 4) (nomark _))))) (pss_one ps_never) pss_nil) <|
      pss_cons (ps_set (i := 13) sc_right.nd rfl (.inl rfl) (pe_mk G.shInit TC.mk_Shed hr5 T.g_cShed (pa_cons (pv 1) pa_nil))) <|
      pss_cons (ps_for PassesOwn.never rfl (pi_range1 (by rfl) T.z_range (pa_cons (pe_op op_add (pe_len T.z_len (pv 3)) pe_int) pa_nil)) (pg_name (i := 14) sc_right.nd rfl (.inl rfl))
        (pss_cons (ps_if (PW.pt (pw_or (pt_not (pt_val (pe_fn G.same hr5 T.g_same (pa_cons (pe_fn G.seen hr6 T.g_seen (pa_cons (pv 13) pa_nil)) (pa_cons (pe_fn G.seen hr6 T.g_seen (pa_cons (pe_mt G.asOf TC.cl_Shed TC.m_Sh_as_of hr6 (pv 2) (pa_cons (pv 14) pa_nil)) pa_nil)) pa_nil)))))
            (pw_or1 (pt_cmpR (op_neOwn TC.f_eq TC.f_ne TC.o_Shed TC.i_eq Fe hr4 be pass0) (pv 13) (pe_mt G.asOf TC.cl_Shed TC.m_Sh_as_of hr6 (pv 2) (pa_cons (pv 14) pa_nil)) (nomark _))))) (pss_one ps_never) pss_nil) <|
          pss_one (ps_if (PW.pt (pw_and (pt_cmpR op_lt (pv 14) (pe_len T.z_len (pv 3)) (nomark _)) (pw_and1 (pt_not (pt_val (pe_fn G.same hr5 T.g_same (pa_cons (pe_fn G.asked hr7 T.g_asked (pa_cons (pv 13) (pa_cons (pe_at (pe_at (pv 3) (pv 14)) pe_int) pa_nil))) (pa_cons (pe_at (pe_at (pv 3) (pv 14)) pe_int) pa_nil)))))))) (pss_one ps_never) pss_nil))) <|
      pss_cons (ps_set (i := 15) sc_right.nd rfl (.inl rfl) (pe_mt0 G.twin TC.cl_Shed TC.m_Sh_twin hr7 (pv 2))) <|
      pss_cons (ps_for PassesOwn.never rfl (pi_range1 (by rfl) T.z_range (pa_cons (pe_len T.z_len (pv 3)) pa_nil)) (pg_name (i := 14) sc_right.nd rfl (.inl rfl))
        (pss_cons (ps_if (PW.pt (pw_or (pt_cmpR op_isnot_bl (pe_mt0 G.undo TC.cl_Shed TC.m_Sh_undo hr2 (pv 2)) pe_bl (nomark _)) (pw_or1 (pt_cmpR op_isnot_bl (pe_mt0 G.undo TC.cl_Shed TC.m_Sh_undo hr2 (pv 13)) pe_bl (nomark _))))) (pss_one ps_never) pss_nil) <|
          pss_one (ps_if (pt_not (pt_val (pe_fn G.same hr5 T.g_same (pa_cons (pe_fn G.seen hr6 T.g_seen (pa_cons (pv 2) pa_nil)) (pa_cons (pe_fn G.seen hr6 T.g_seen (pa_cons (pv 13) pa_nil)) pa_nil))))) (pss_one ps_never) pss_nil))) <|
      pss_one (ps_ret (pe_and (pe_cmpR op_is_bl (pe_mt0 G.undo TC.cl_Shed TC.m_Sh_undo hr2 (pv 2)) pe_bl (nomark _)) (pe_and (pe_cmpR (op_eqG (rcG_ins (eqL Fe) TC.f_eq TC.i_eq be pass0) hr3) (pv 2) (pe_mk G.shInit TC.mk_Shed hr5 T.g_cShed (pa_cons (pv 1) pa_nil)) (nomark _))
        (pe_one (pe_fn G.row hr T.g_rowRight (pa_cons (pv 0) (pa_cons (pv 15) pa_nil))))))), ?_⟩
    -- the limit
    refine ⟨_, rfl, _, rfl, fit' (by show 3 ≤ 1000000; decide), fun tl htl => ?_⟩
    have s1 : Same H (upd H tl (.lst [.int 4, .int 12, .int 100])) := Same.new htl
    have f1 : upd H tl (.lst [.int 4, .int 12, .int 100]) tl = some (.lst [.int 4, .int 12, .int 100]) := upd_same
    have ntb : tl ≠ b := fun z => by
      obtain ⟨_, _, _, e, _⟩ := hb
      rw [z, e] at htl
      cases htl
    generalize upd H tl (.lst [.int 4, .int 12, .int 100]) = H1 at s1 f1
    refine ⟨b, tl, 0, _, rfl, hb.same s1, by decide, f1, ntb, by simp, by simp, fun H2 j x k2 b2 hx => ?_⟩
    obtain ⟨bw, rfl, w1, w2⟩ : ∃ bw : Int, x = .int bw ∧ 1 ≤ bw ∧ bw ≤ 100 := by
      match j, hx with
      | 0, hx => exact ⟨4, (Option.some.inj hx).symm, by decide, by decide⟩
      | 1, hx => exact ⟨12, (Option.some.inj hx).symm, by decide, by decide⟩
      | 2, hx => exact ⟨100, (Option.some.inj hx).symm, by decide, by decide⟩
      | (i + 3), hx => cases hx
    refine ⟨b, _, bw, rfl, b2, by omega, w1, by omega, fun H3 r k3 b3 p1 p2 => ⟨_, _, rfl, rfl, ?_⟩⟩
    have k03 : Keep (Mb b) H H3 := ((Keep.of s1).trans k2).trans k3
    -- the shed, the lists
    refine ⟨_, rfl, sh_mk fun H4 a sl ll s4 na nsl nll hsh => ⟨fit' (by show 0 ≤ 1000000; decide), fun so hso => ?_⟩⟩
    have fr3 : ∀ {t : Addr}, H3 t = none → H t = none := fun d => box_free k03 b3 d
    have q1 : Same H4 (upd H4 so (.lst [])) := Same.new hso
    have g1 : upd H4 so (.lst []) so = some (.lst []) := upd_same
    have oso := hsh.old hso
    have b4 := b3.same s4
    have nso_b : so ≠ b := fun z => by
      obtain ⟨_, _, _, e, _⟩ := b4
      rw [z, e] at hso
      cases hso
    generalize upd H4 so (.lst []) = H5 at q1 g1
    have h5 := hsh.same q1
    have b5 := b4.same q1
    refine ⟨fit' (by show 0 ≤ 1000000; decide), fun wo hwo => ?_⟩
    have q2 : Same H5 (upd H5 wo (.lst [])) := Same.new hwo
    have g2 : upd H5 wo (.lst []) wo = some (.lst []) := upd_same
    have owo := h5.old hwo
    have nwo_so : wo ≠ so := fun z => by rw [z, g1] at hwo; cases hwo
    have nwo_b : wo ≠ b := fun z => by
      obtain ⟨_, _, _, e, _⟩ := b5
      rw [z, e] at hwo
      cases hwo
    have fwo : H wo = none := fr3 (s4.free (q1.free hwo))
    generalize upd H5 wo (.lst []) = H6 at q2 g2
    refine ⟨_, rfl, fit' (by show 0 ≤ 1000000; decide), fun e1 n1 => ⟨fit' (by show 0 ≤ 1000000; decide), fun e2 n2 => ⟨fit' (by show 2 ≤ 1000000; decide), fun e3 n3 => ⟨fit' (by show 0 ≤ 1000000; decide), fun e4 n4 => ⟨fit' (by show 3 ≤ 1000000; decide), fun nw n5 => ⟨fit' (by show 4 ≤ 1000000; decide), fun tp n6 => ?_⟩⟩⟩⟩⟩⟩
    have r1 : Same H6 (upd H6 e1 (.tup [])) := Same.new n1
    have y1 : upd H6 e1 (.tup []) e1 = some (.tup []) := upd_same
    generalize upd H6 e1 (.tup []) = J1 at *
    have r2 : Same J1 (upd J1 e2 (.tup [])) := Same.new n2
    have y2 : upd J1 e2 (.tup []) e2 = some (.tup []) := upd_same
    generalize upd J1 e2 (.tup []) = J2 at *
    have r3 : Same J2 (upd J2 e3 (.tup [.ref e1, .ref e2])) := Same.new n3
    have y3 : upd J2 e3 (.tup [.ref e1, .ref e2]) e3 = some (.tup [.ref e1, .ref e2]) := upd_same
    generalize upd J2 e3 (.tup [.ref e1, .ref e2]) = J3 at *
    have r4 : Same J3 (upd J3 e4 (.tup [])) := Same.new n4
    have y4 : upd J3 e4 (.tup []) e4 = some (.tup []) := upd_same
    generalize upd J3 e4 (.tup []) = J4 at *
    have r5 : Same J4 (upd J4 nw (.tup [.int (1 + r), .ref e3, .ref e4])) := Same.new n5
    have y5 : upd J4 nw (.tup [.int (1 + r), .ref e3, .ref e4]) nw = some (.tup [.int (1 + r), .ref e3, .ref e4]) := upd_same
    have r6 : Same (upd J4 nw (.tup [.int (1 + r), .ref e3, .ref e4])) (upd (upd J4 nw (.tup [.int (1 + r), .ref e3, .ref e4])) tp (.tup [.ref a, .ref so, .ref wo, .ref nw])) := Same.new n6
    have y6 : upd (upd J4 nw (.tup [.int (1 + r), .ref e3, .ref e4])) tp (.tup [.ref a, .ref so, .ref wo, .ref nw]) tp = some (.tup [.ref a, .ref so, .ref wo, .ref nw]) := upd_same
    refine ⟨tp, _, rfl, SqT.of y6, rfl, _, _, rfl, _, _, rfl, _, _, rfl, _, _, rfl, rfl, ?_⟩
    have dnw : DA Tp (upd (upd J4 nw (.tup [.int (1 + r), .ref e3, .ref e4])) tp (.tup [.ref a, .ref so, .ref wo, .ref nw])) (LsD (1 + r) [] [] []) (.ref nw) :=
      (lsD_M (ws := []) (wa := e4) y5 ((pD_M (L := []) (R := []) (r4.at y3) (r4.at (r3.at (r2.at y1))) (r4.at (r3.at y2))).same r5) (r5.at y4)).same r6
    have r66 : Same H6 (upd (upd J4 nw (.tup [.int (1 + r), .ref e3, .ref e4])) tp (.tup [.ref a, .ref so, .ref wo, .ref nw])) := ((((r1.trans r2).trans r3).trans r4).trans r5).trans r6
    generalize upd (upd J4 nw (.tup [.int (1 + r), .ref e3, .ref e4])) tp (.tup [.ref a, .ref so, .ref wo, .ref nw]) = H7 at dnw r66
    clear y6 r6 y5 r5 y4 r4 y3 r3 y2 r2 y1 r1
    refine ⟨_, rfl, fit' (by show 1 ≤ 1000000; decide), fun sta hsta => ?_⟩
    have h7 := (h5.same q2).same r66
    have b7 := (b5.same q2).same r66
    have osta := h7.old hsta
    have g17 := r66.at (q2.at g1)
    have g27 := r66.at g2
    have nsta_wo : sta ≠ wo := fun z => by rw [z, g27] at hsta; cases hsta
    have nsta_b : sta ≠ b := fun z => by
      obtain ⟨_, _, _, e, _⟩ := b7
      rw [z, e] at hsta
      cases hsta
    have q3 : Same H7 (upd H7 sta (.lst [.ref nw])) := Same.new hsta
    have g3 : upd H7 sta (.lst [.ref nw]) sta = some (.lst [.ref nw]) := upd_same
    generalize upd H7 sta (.lst [.ref nw]) = H8 at q3 g3
    have h8 := h7.same q3
    have b8 := b7.same q3
    have k08 : Keep (Mb b) H H8 := ((((k03.trans (Keep.of s4)).trans (Keep.of q1)).trans (Keep.of q2)).trans (Keep.of r66)).trans (Keep.of q3)
    have fsl : H sl = none := fr3 nsl
    have fll : H ll = none := fr3 nll
    have fa : H a = none := fr3 na
    have nslb : sl ≠ b := fun z => by
      obtain ⟨_, _, _, e, _⟩ := b3
      rw [z, e] at nsl
      cases nsl
    have nllb : ll ≠ b := fun z => by
      obtain ⟨_, _, _, e, _⟩ := b3
      rw [z, e] at nll
      cases nll
    have nso1 : ¬ (so = b ∨ Mx sl ll so ∨ so = wo) := fun z => by
      rcases z with z | (z | z) | z
      · exact nso_b z
      · exact oso.2.1 z
      · exact oso.2.2 z
      · exact nwo_so z.symm
    have nsta1 : ¬ (sta = b ∨ Mx sl ll sta ∨ sta = wo) := fun z => by
      rcases z with z | (z | z) | z
      · exact nsta_b z
      · exact osta.2.1 z
      · exact osta.2.2 z
      · exact nsta_wo z
    refine ⟨fun σ H' => ∃ (o7 o8 o9 : Option V) (so sta : Addr) (pre : List Sta) (c : Sta) (ds : List (Deed × PyData)) (ws : List Str) (sv : List V), σ = [some (.ref b), some (.int (1 + r)), some (.ref a), some (.ref so), some (.ref wo), some (.ref nw), some (.ref sta), o7, o8, o9, none, none, none, none, none, none] ∧
        Keep (fun c => c = b ∨ Mx sl ll c ∨ c = wo) H8 H' ∧ BoxAt H' b 5000 ∧ ShedAt A H' a sl ll (pre ++ [c]) (logF ws) ∧ Ch ⟨1 + r, [], [], []⟩ ds (pre ++ [c]) ∧ (∀ s ∈ pre ++ [c], SOk s 900) ∧ ds.length ≤ 40 ∧ ws.length ≤ 40 ∧ (∀ x ∈ ws, PyData.canLay0 (.str x) = true) ∧
        H' so = some (.lst sv) ∧ ¬ (so = b ∨ Mx sl ll so ∨ so = wo) ∧ DAs (fun c => c = b ∨ Mx sl ll c ∨ c = wo) H' (ds.map stD) sv ∧ H' wo = some (.lst (ws.map V.str)), ?_, ?_⟩
    · -- the history
      refine ⟨_, rfl, b, _, 40, rfl, b8, by omega, by decide, by decide, fun H9 rt k9 b9 p3 p4 => ⟨_, _, rfl, rfl, 1 + rt, rfl, by omega, by omega, ?_⟩⟩
      have k9' : Keep (fun c => c = b ∨ Mx sl ll c ∨ c = wo) H8 H9 := k9.mono fun _ z => .inl z
      refine for_range (lo := 0) (n := (1 + rt).toNat) (fun i σ H' => ∃ (o7 o8 o9 : Option V) (so sta : Addr) (pre : List Sta) (c : Sta) (ds : List (Deed × PyData)) (ws : List Str) (sv lv : List V), σ = [some (.ref b), some (.int (1 + r)), some (.ref a), some (.ref so), some (.ref wo), some (.ref nw), some (.ref sta), o7, o8, o9, none, none, none, none, none, none] ∧
          Keep (fun c => c = b ∨ Mx sl ll c ∨ c = wo) H8 H' ∧ BoxAt H' b (10 + 70 * i) ∧ ShedAt A H' a sl ll (pre ++ [c]) (logF ws) ∧ Ch ⟨1 + r, [], [], []⟩ ds (pre ++ [c]) ∧ (∀ s ∈ pre ++ [c], SOk s i) ∧ ds.length ≤ i ∧ ws.length ≤ i ∧ (∀ x ∈ ws, PyData.canLay0 (.str x) = true) ∧
          H' so = some (.lst sv) ∧ ¬ (so = b ∨ Mx sl ll so ∨ so = wo) ∧ DAs (fun c => c = b ∨ Mx sl ll c ∨ c = wo) H' (ds.map stD) sv ∧ H' wo = some (.lst (ws.map V.str)) ∧
          H' sta = some (.lst lv) ∧ ¬ (sta = b ∨ Mx sl ll sta ∨ sta = wo) ∧ lv ≠ [] ∧ lv.length ≤ i + 1 ∧ ∀ x ∈ lv, LsAt H' i x)
        ⟨none, none, none, so, sta, [], ⟨1 + r, [], [], []⟩, [], [], [], [.ref nw], rfl, k9', b9.mono (by omega), h8.kp k9 (fun z => nslb z) (fun z => nllb z), Ch.nil, ?_, Nat.le_refl _, Nat.le_refl _, (fun x hx => by cases hx), k9.lst (q3.at g17) nso_b, nso1, DAs.nil, k9.lst (q3.at g27) nwo_b,
          k9.lst g3 nsta_b, nsta1, by simp, by simp, ?_⟩ ?_ ?_
      · intro s hs
        have es : s = ⟨1 + r, [], [], []⟩ := by simpa using hs
        rw [es]
        exact ⟨fun i hi => (by cases hi), fun i hi => (by cases hi), Nat.le_refl _, Nat.le_refl _, ⟨by show 0 ≤ 1 + r; omega, by show 1 + r ≤ 1000000000; omega⟩, fun w hw => by cases hw⟩
      · intro x hx
        rw [List.mem_singleton.mp hx]
        exact ⟨1 + r, [], [], [], (dnw.same q3).kp k9, ⟨by omega, by omega, fun i hi => (by cases hi), fun i hi => (by cases hi), Nat.le_refl _, Nat.le_refl _⟩⟩
      · rintro i σ HA hi ⟨o7, o8, o9, so, sta, pre, c, ds, ws, sv, lv, rfl, kA, bA, shA, ch, sok, hds, hws, hwl, eso, nso, dso, ewo, esta, nsta, lne, llen, lls⟩
        have hi40 : i < 40 := by omega
        have hchl := ch.len
        have hcl : (pre ++ [c]).length ≤ 41 := by omega
        refine ⟨_, rfl, b, _, 6, rfl, bA, by omega, by decide, by decide, fun HB r6 kB bB p5 p6 => ⟨rfl, _, rfl, ?_⟩⟩
        have nslb' : ¬ Mb b sl := fun z => nslb z
        have nllb' : ¬ Mb b ll := fun z => nllb z
        have shB := shA.kp kB nslb' nllb'
        have kB1 : Keep (fun c => c = b ∨ Mx sl ll c ∨ c = wo) HA HB := kB.mono fun _ z => .inl z
        have dsoB := DAs.keep kB1 (fun _ z => z) _ _ dso
        have esoB := kB1.lst eso nso
        have estaB := kB1.lst esta nsta
        have ewoB := kB.lst ewo nwo_b
        have llsB : ∀ x ∈ lv, LsAt HB i x := fun x hx => (lls x hx).kp kB
        have tokd : ∀ q ∈ ds, tOk q.2 := fun q hq => by
          obtain ⟨j, hj⟩ := List.getElem?_of_mem hq
          exact ch.tok (d := q.1) (t := q.2) hj
        have llog := logF_len ws
        by_cases c6 : r6 = 0
        · refine if_true_of (by rw [c6]; exact decide_eq_true rfl) ?_
          refine ⟨_, rfl, sh_at shB ⟨a, sl, ll, _, _, rfl, shB, by omega, fun HC kC shC => ?_⟩⟩
          have kC1 : Keep (fun c => c = b ∨ Mx sl ll c ∨ c = wo) HB HC := kC.mono fun _ z => .inr (.inl z)
          have dsoC := DAs.keep kC1 (fun _ z => z) _ _ dsoB
          have esoC := kC1.lst esoB nso
          refine ⟨_, rfl, fit' (by show 0 ≤ 1000000; decide), fun e he => ?_⟩
          have s1 : Same HC (upd HC e (.lst [])) := Same.new he
          have fe : upd HC e (.lst []) e = some (.lst []) := upd_same
          generalize upd HC e (.lst []) = HD at s1 fe
          have dstood : DA Bt HD (.list (ds.map stD)) (.ref so) := DA.lst (s1.at esoC) (fun z => z) (DAs.weak (fun _ z => z.elim) _ _ (dsoC.same s1))
          refine ⟨_, _, dstood.dp, (DA.lst (M := Bt) fe (fun z => z) DAs.nil).dp, (pl_stood tokd).shaped (by decide), (pl_lifts (n := 0) (t := [])).shaped (by decide), rfl, _, rfl, ?_⟩
          rw [eqv_nil, ch_bool ch]
          refine if_false_of (by simp) ?_
          refine ⟨_, rfl, 1, rfl, _, rfl, so, sv, rfl, SqL.of (s1.at esoC), fun so2 hso2 => ?_⟩
          have s2 : Same HD (upd HD so2 (.lst (cutV sv none (some (-1))))) := Same.new hso2
          have f2 : upd HD so2 (.lst (cutV sv none (some (-1)))) so2 = some (.lst (cutV sv none (some (-1)))) := upd_same
          have shD := shC.same s1
          have oso2 := shD.old hso2
          have bD := (bB.kp kC (fun z => z.elim (fun z => nslb z.symm) fun z => nllb z.symm)).same s1
          have ewoD := s1.at (kC.lst ewoB (fun z => z.elim owo.2.1 owo.2.2))
          have nso2 : ¬ (so2 = b ∨ Mx sl ll so2 ∨ so2 = wo) := fun z => by
            rcases z with z | (z | z) | z
            · obtain ⟨_, _, _, e, _⟩ := bD
              rw [z, e] at hso2
              cases hso2
            · exact oso2.2.1 z
            · exact oso2.2.2 z
            · rw [z, ewoD] at hso2
              cases hso2
          rw [cut_last] at s2 f2
          generalize hHE : upd HD so2 (.lst (cutV sv none (some (-1)))) = HE
          rw [cut_last] at hHE
          rw [hHE] at s2 f2
          have s12 := s1.trans s2
          have estaE := s12.at (kC1.lst estaB nsta)
          refine ⟨_, rfl, _, rfl, sta, lv, rfl, .inr estaE, _, _, rfl, rfl, _, _, rfl, _, rfl, sta, lv, rfl, SqL.of estaE, fun sta2 hsta2 => ⟨_, _, rfl, ?_⟩⟩
          obtain ⟨m, hm, em⟩ := cut_max (lv := lv)
          have s3 : Same HE (upd HE sta2 (.lst (lv.take m))) := Same.new hsta2
          have f3 : upd HE sta2 (.lst (lv.take m)) sta2 = some (.lst (lv.take m)) := upd_same
          generalize hHF : upd HE sta2 (.lst (cutV lv none (some (if (lv.length : Int) - 1 > 1 then (lv.length : Int) - 1 else 1)))) = HF
          rw [em] at hHF
          rw [hHF] at s3 f3
          have shE := shD.same s2
          have osta2 := shE.old hsta2
          have nsta2 : ¬ (sta2 = b ∨ Mx sl ll sta2 ∨ sta2 = wo) := fun z => by
            rcases z with z | (z | z) | z
            · obtain ⟨_, _, _, e, _⟩ := bD.same s2
              rw [z, e] at hsta2
              cases hsta2
            · exact osta2.2.1 z
            · exact osta2.2.2 z
            · rw [z, s2.at ewoD] at hsta2
              cases hsta2
          have s123 := s12.trans s3
          have ewoF := (s2.trans s3).at ewoD
          refine ⟨_, rfl, SqL.ty ewoF, wo, _, .str "undo", rfl, rfl, ewoF, by rw [List.length_map]; exact fit (by omega), ?_⟩
          have kW : Keep (fun c => c = wo) HF (upd HF wo (.lst (ws.map V.str ++ [.str "undo"]))) := Keep.set ewoF rfl
          have fW : upd HF wo (.lst (ws.map V.str ++ [.str "undo"])) wo = some (.lst (ws.map V.str ++ [.str "undo"])) := upd_same
          generalize upd HF wo (.lst (ws.map V.str ++ [.str "undo"])) = HG at kW fW
          have kW1 : Keep (fun c => c = b ∨ Mx sl ll c ∨ c = wo) HF HG := kW.mono fun _ z => .inr (.inr z)
          have kBG : Keep (fun c => c = b ∨ Mx sl ll c ∨ c = wo) HB HG := (kC1.trans (Keep.of s123)).trans kW1
          obtain ⟨pre', c', epc, ch', sub⟩ := ch_undo ch
          have shG : ShedAt A HG a sl ll (pre' ++ [c']) (logF (ws ++ [("undo" : Str)])) := by
            rw [← logF_snoc, ← epc]
            exact (shC.same s123).kp kW (fun z => owo.2.1 z.symm) fun z => owo.2.2 z.symm
          refine ⟨_, _, _, so2, sta2, pre', c', ds.dropLast, ws ++ [("undo" : Str)], sv.dropLast, lv.take m, rfl, (kA.trans kB1).trans kBG, ((((bB.kp kC (fun z => z.elim (fun z => nslb z.symm) fun z => nllb z.symm)).same s123).kp kW (fun z => nwo_b z.symm))).mono (by omega), shG, ch', fun s hs => (sok s (sub s hs)).mono (by omega), by rw [List.length_dropLast]; omega, by rw [List.length_append, List.length_singleton]; omega, ?_,
            kW1.lst (s3.at f2) nso2, nso2, ?_, ?_, kW1.lst f3 nsta2, nsta2, ?_, ?_, ?_⟩
          · intro x hx
            rcases List.mem_append.mp hx with hx | hx
            · exact hwl x hx
            · rw [List.mem_singleton.mp hx]
              decide +kernel
          · rw [List.map_dropLast]
            exact DAs.keep kW1 (fun _ z => z) _ _ ((dsoC.same s123).dropLast)
          · rw [List.map_append]
            exact fW
          · intro z
            have : (lv.take m).length = 0 := by rw [z]; rfl
            rw [List.length_take] at this
            have : 0 < lv.length := List.length_pos_iff.mpr lne
            omega
          · rw [List.length_take]
            omega
          · intro x hx
            exact ((llsB x (List.mem_of_mem_take hx)).kp kBG).mono (by omega)
        · refine if_false_of (decide_eq_false fun z => c6 (V.int.inj z)) ?_
          obtain ⟨lv0, xl, rfl⟩ : ∃ l0 x, lv = l0 ++ [x] := ⟨lv.dropLast, lv.getLast lne, (List.dropLast_concat_getLast lne).symm⟩
          obtain ⟨lim, ws', L', R', dls, lok⟩ := llsB xl (by simp)
          refine ⟨_, rfl, _, rfl, 1, rfl, sta, _, _, xl, rfl, rfl, .inr estaB, atI_last _ _, b, xl, _, lim, ws', L', R', i, rfl, bB, by omega, dls, lok, by omega, fun HC u d kC bC hdd dok => ?_⟩
          have kC1 : Keep (fun c => c = b ∨ Mx sl ll c ∨ c = wo) HB HC := kC.mono fun _ z => .inl z
          have shC := shB.kp kC nslb' nllb'
          obtain ⟨xs0, ls0, t1, _, t2, _⟩ := shB.lists
          have hd1 : DA (fun c => c = b ∨ Mx sl ll c ∨ c = wo) HC d.D (.ref u) := DA.weak (fun c z => .inl (by
            rcases z with z | (z | z) | z
            · obtain ⟨_, _, _, e, _⟩ := bB
              rw [z, e]
              simp
            · rw [z, t1]
              simp
            · rw [z, t2]
              simp
            · rw [z, ewoB]
              simp)) _ _ hdd
          have hd2 : DA (Mx sl ll) HC d.D (.ref u) := DA.weak (fun c z => .inl (.inr (.inl z))) _ _ hd1
          have ewoC := kC.lst ewoB nwo_b
          have esoC := kC1.lst esoB nso
          have estaC := kC1.lst estaB nsta
          have dsoC := DAs.keep kC1 (fun _ z => z) _ _ dsoB
          have nMwo : ¬ Mx sl ll wo := fun z => z.elim owo.2.1 owo.2.2
          have nMb : ¬ Mx sl ll b := fun z => z.elim (fun z => nslb z.symm) fun z => nllb z.symm
          have nMso : ¬ Mx sl ll so := fun z => nso (.inr (.inl z))
          have nMsta : ¬ Mx sl ll sta := fun z => nsta (.inr (.inl z))
          -- the words, behind either end
          have fin : ∀ (HX : Hp) (o7 : Option V) (tv : V) (so' sta' : Addr) (pre' : List Sta) (c' : Sta) (ds' : List (Deed × PyData)) (sv' lv' : List V), Keep (fun c => c = b ∨ Mx sl ll c ∨ c = wo) HB HX → BoxAt HX b (10 + 70 * i + 62) → ShedAt A HX a sl ll (pre' ++ [c']) (logF ws ++ logD d.name) → Ch ⟨1 + r, [], [], []⟩ ds' (pre' ++ [c']) → (∀ s ∈ pre' ++ [c'], SOk s (i + 1)) → ds'.length ≤ i + 1 →
              HX so' = some (.lst sv') → ¬ (so' = b ∨ Mx sl ll so' ∨ so' = wo) → DAs (fun c => c = b ∨ Mx sl ll c ∨ c = wo) HX (ds'.map stD) sv' → HX wo = some (.lst (ws.map V.str)) → HX sta' = some (.lst lv') → ¬ (sta' = b ∨ Mx sl ll sta' ∨ sta' = wo) → lv' ≠ [] → lv'.length ≤ i + 2 → (∀ x ∈ lv', LsAt HX (i + 1) x) → DA Bt HX d.D (.ref u) →
              tDrop (tBM K "list" rAppend (tVar 4) (tCons (tOp rAt (tVar 8) (tC (.int 0))) tNil)) { nx := (fun σ H' => ∃ (o7 o8 o9 : Option V) (so sta : Addr) (pre : List Sta) (c : Sta) (ds : List (Deed × PyData)) (ws : List Str) (sv lv : List V), σ = [some (.ref b), some (.int (1 + r)), some (.ref a), some (.ref so), some (.ref wo), some (.ref nw), some (.ref sta), o7, o8, o9, none, none, none, none, none, none] ∧
          Keep (fun c => c = b ∨ Mx sl ll c ∨ c = wo) H8 H' ∧ BoxAt H' b (10 + 70 * (i + 1)) ∧ ShedAt A H' a sl ll (pre ++ [c]) (logF ws) ∧ Ch ⟨1 + r, [], [], []⟩ ds (pre ++ [c]) ∧ (∀ s ∈ pre ++ [c], SOk s (i + 1)) ∧ ds.length ≤ i + 1 ∧ ws.length ≤ i + 1 ∧ (∀ x ∈ ws, PyData.canLay0 (.str x) = true) ∧
          H' so = some (.lst sv) ∧ ¬ (so = b ∨ Mx sl ll so ∨ so = wo) ∧ DAs (fun c => c = b ∨ Mx sl ll c ∨ c = wo) H' (ds.map stD) sv ∧ H' wo = some (.lst (ws.map V.str)) ∧
          H' sta = some (.lst lv) ∧ ¬ (sta = b ∨ Mx sl ll sta ∨ sta = wo) ∧ lv ≠ [] ∧ lv.length ≤ i + 1 + 1 ∧ ∀ x ∈ lv, LsAt H' (i + 1) x), rt := Q } [some (.ref b), some (.int (1 + r)), some (.ref a), some (.ref so'), some (.ref wo), some (.ref nw), some (.ref sta'), o7, some (.ref u), some tv, none, none, none, none, none, none] HX := by
            intro HX o7 tv so' sta' pre' c' ds' sv' lv' kX bX shX chX sokX hdsX esoX nsoX dsoX ewoX estaX nstaX lneX llX llsX ddX
            obtain ⟨u', xsu, eu, hu⟩ := deed_first ddX
            cases eu
            refine ⟨_, rfl, SqL.ty ewoX, _, rfl, u, _, 0, _, rfl, rfl, .inl hu, at_zero _ _, wo, _, _, rfl, rfl, ewoX, by rw [List.length_map]; exact fit (by omega), ?_⟩
            have kW : Keep (fun c => c = wo) HX (upd HX wo (.lst (ws.map V.str ++ [.str d.name]))) := Keep.set ewoX rfl
            have fW : upd HX wo (.lst (ws.map V.str ++ [.str d.name])) wo = some (.lst (ws.map V.str ++ [.str d.name])) := upd_same
            generalize upd HX wo (.lst (ws.map V.str ++ [.str d.name])) = HG at kW fW
            have kW1 : Keep (fun c => c = b ∨ Mx sl ll c ∨ c = wo) HX HG := kW.mono fun _ z => .inr (.inr z)
            refine ⟨_, _, _, so', sta', pre', c', ds', ws ++ [d.name], sv', lv', rfl, ((kA.trans kB1).trans kX).trans kW1, (bX.kp kW (fun z => nwo_b z.symm)).mono (by omega), ?_, chX, sokX, hdsX, by rw [List.length_append, List.length_singleton]; omega, ?_, kW1.lst esoX nsoX, nsoX, DAs.keep kW1 (fun _ z => z) _ _ dsoX, ?_, kW1.lst estaX nstaX, nstaX, lneX, llX, fun x hx => (llsX x hx).kp kW⟩
            · rw [← logF_snoc]
              exact shX.kp kW (fun z => owo.2.1 z.symm) fun z => owo.2.2 z.symm
            · intro x hx
              rcases List.mem_append.mp hx with hx | hx
              · exact hwl x hx
              · rw [List.mem_singleton.mp hx]
                exact pl_name d
            · rw [List.map_append]
              exact fW
          have sokc : SOk c i := sok c (by simp)
          refine ⟨_, rfl, _, rfl, a, sl, ll, pre, c, _, d, _, rfl, hd2, shC, sokc.mono (by omega), ?_, by omega, fun t s' ea HD uu kD shD du => ?_, fun e ea HD uu kD shD du => ?_⟩
          · rw [List.length_append, List.length_singleton] at hcl
            omega
          · -- told
            obtain ⟨ta, u0, tv, rfl, hta, d0, d1⟩ := deed2 du
            cases d0.strI
            have kD1 : Keep (fun c => c = b ∨ Mx sl ll c ∨ c = wo) HC HD := kD.mono fun _ z => .inr (.inl z)
            have bD := bC.kp kD nMb
            have esoD := kD.lst esoC nMso
            have estaD := kD.lst estaC nMsta
            have ewoD := kD.lst ewoC nMwo
            have dsoD := DAs.keep kD1 (fun _ z => z) _ _ dsoC
            have hdD := DA.keep kD1 (fun _ z => z) _ _ hd1
            refine ⟨fun σ' H' => ∃ (so' sta' : Addr) (pre' : List Sta) (c' : Sta) (ds' : List (Deed × PyData)) (sv' lv' : List V), σ' = [some (.ref b), some (.int (1 + r)), some (.ref a), some (.ref so'), some (.ref wo), some (.ref nw), some (.ref sta'), some (.int (0 + (i : Int))), some (.ref u), some (.ref ta), none, none, none, none, none, none] ∧ Keep (fun c => c = b ∨ Mx sl ll c ∨ c = wo) HB H' ∧ BoxAt H' b (10 + 70 * i + 62) ∧ ShedAt A H' a sl ll (pre' ++ [c']) (logF ws ++ logD d.name) ∧ Ch ⟨1 + r, [], [], []⟩ ds' (pre' ++ [c']) ∧ (∀ s ∈ pre' ++ [c'], SOk s (i + 1)) ∧ ds'.length ≤ i + 1 ∧
              H' so' = some (.lst sv') ∧ ¬ (so' = b ∨ Mx sl ll so' ∨ so' = wo) ∧ DAs (fun c => c = b ∨ Mx sl ll c ∨ c = wo) H' (ds'.map stD) sv' ∧ H' wo = some (.lst (ws.map V.str)) ∧ H' sta' = some (.lst lv') ∧ ¬ (sta' = b ∨ Mx sl ll sta' ∨ sta' = wo) ∧ lv' ≠ [] ∧ lv'.length ≤ i + 2 ∧ (∀ x ∈ lv', LsAt H' (i + 1) x) ∧ DA Bt H' d.D (.ref u), ?_, ?_⟩
            · refine ⟨_, rfl, ta, _, 0, _, rfl, rfl, .inl hta, rfl, rfl, _, rfl, if_true_of (decide_eq_true rfl) ?_⟩
              refine ⟨_, rfl, _, rfl, _, rfl, fit' (by show 2 ≤ 1000000; decide), fun t1 ht1 => ?_⟩
              have s1 : Same HD (upd HD t1 (.tup [.ref u, .ref ta])) := Same.new ht1
              have f1 : upd HD t1 (.tup [.ref u, .ref ta]) t1 = some (.tup [.ref u, .ref ta]) := upd_same
              generalize upd HD t1 (.tup [.ref u, .ref ta]) = HE at s1 f1
              refine ⟨fit' (by show 1 ≤ 1000000; decide), fun l1 hl1 => ?_⟩
              have s2 : Same HE (upd HE l1 (.lst [.ref t1])) := Same.new hl1
              have f2 : upd HE l1 (.lst [.ref t1]) l1 = some (.lst [.ref t1]) := upd_same
              generalize upd HE l1 (.lst [.ref t1]) = HF at s2 f2
              have s12 := s1.trans s2
              have lsv : sv.length = ds.length := by rw [dso.length, List.length_map]
              refine ⟨so, l1, sv, _, rfl, rfl, s12.at esoD, f2, by rw [lsv, List.length_singleton, sizeLine_eq]; omega, fun so2 hso2 => ?_⟩
              have s3 : Same HF (upd HF so2 (.lst (sv ++ [.ref t1]))) := Same.new hso2
              have f3 : upd HF so2 (.lst (sv ++ [.ref t1])) so2 = some (.lst (sv ++ [.ref t1])) := upd_same
              have shF := shD.same s12
              have oso2 := shF.old hso2
              have nso2 : ¬ (so2 = b ∨ Mx sl ll so2 ∨ so2 = wo) := fun z => by
                rcases z with z | (z | z) | z
                · obtain ⟨_, _, _, e, _⟩ := bD.same s12
                  rw [z, e] at hso2
                  cases hso2
                · exact oso2.2.1 z
                · exact oso2.2.2 z
                · rw [z, s12.at ewoD] at hso2
                  cases hso2
              generalize upd HF so2 (.lst (sv ++ [.ref t1])) = HG at s3 f3
              have s13 := s12.trans s3
              refine ⟨_, rfl, _, rfl, 1, rfl, sta, _, _, xl, rfl, rfl, .inr (s13.at estaD), atI_last _ _, _, rfl, ?_⟩
              have dlsG : DA Tp HG (LsD lim ws' L' R') xl := (((dls.kp kC).kp kD).same s13)
              refine ⟨xl, .ref u, lim, ws', L', R', i, d, rfl, dlsG, lok, by omega, (hdD.same s13).bot, dok, fun HI eu ex ey lim2 ws2 L2' R2' s4 hu dy lok2 => ?_⟩
              refine ⟨eu, _, 1, ey, rfl, rfl, .inl hu, rfl, fit' (by show 1 ≤ 1000000; decide), fun l2 hl2 => ?_⟩
              have s5 : Same HI (upd HI l2 (.lst [ey])) := Same.new hl2
              have f5 : upd HI l2 (.lst [ey]) l2 = some (.lst [ey]) := upd_same
              generalize upd HI l2 (.lst [ey]) = HJ at s5 f5
              have s15 := (s13.trans s4).trans s5
              refine ⟨sta, l2, _, _, rfl, rfl, s15.at estaD, f5, by rw [List.length_singleton, sizeLine_eq]; omega, fun sta2 hsta2 => ⟨_, _, rfl, ?_⟩⟩
              have s6 : Same HJ (upd HJ sta2 (.lst ((lv0 ++ [xl]) ++ [ey]))) := Same.new hsta2
              have f6 : upd HJ sta2 (.lst ((lv0 ++ [xl]) ++ [ey])) sta2 = some (.lst ((lv0 ++ [xl]) ++ [ey])) := upd_same
              have osta2 := (shD.same s15).old hsta2
              have nsta2 : ¬ (sta2 = b ∨ Mx sl ll sta2 ∨ sta2 = wo) := fun z => by
                rcases z with z | (z | z) | z
                · obtain ⟨_, _, _, e, _⟩ := bD.same s15
                  rw [z, e] at hsta2
                  cases hsta2
                · exact osta2.2.1 z
                · exact osta2.2.2 z
                · rw [z, s15.at ewoD] at hsta2
                  cases hsta2
              generalize upd HJ sta2 (.lst ((lv0 ++ [xl]) ++ [ey])) = HK at s6 f6
              have s16 := s15.trans s6
              have s36 := (s4.trans s5).trans s6
              refine ⟨so2, sta2, pre ++ [c], s', ds ++ [(d, t)], sv ++ [.ref t1], (lv0 ++ [xl]) ++ [ey], rfl, (kC1.trans kD1).trans (Keep.of s16), (bD.same s16).mono (by omega), shD.same s16, ch.snoc ea, ?_, by rw [List.length_append, List.length_singleton]; omega, s36.at f3, nso2, ?_, s16.at ewoD, f6, nsta2, by simp, by rw [List.length_append, List.length_singleton]; omega, ?_, (hdD.same s16).bot⟩
              · intro s hs
                rcases List.mem_append.mp hs with hs | hs
                · exact (sok s hs).mono (by omega)
                · rw [List.mem_singleton.mp hs]
                  exact act_ok sokc dok ea
              · rw [List.map_append]
                refine DAs.append (dsoD.same s16) (DAs.cons ?_ DAs.nil)
                exact DA.tup ((s2.trans (s3.trans s36)).at f1) (DAs.cons (hdD.same s16) (DAs.cons ((DA.any du).same s16) DAs.nil))
              · intro x hx
                rcases List.mem_append.mp hx with hx | hx
                · exact ((((llsB x hx).kp kC).kp kD).kp (Keep.of (M := Bt) s16)).mono (by omega)
                · rw [List.mem_singleton.mp hx]
                  exact ⟨lim2, ws2, L2', R2', (dy.same s5).same s6, lok2⟩
            · rintro σ' H' ⟨so', sta', pre', c', ds', sv', lv', rfl, z1, z2, z3, z4, z5, z6, z7, z8, z9, z10, z11, z12, z13, z14, z15, z16⟩
              exact fin H' _ _ so' sta' pre' c' ds' sv' lv' z1 z2 z3 z4 z5 z6 z7 z8 z9 z10 z11 z12 z13 z14 z15 z16
          · -- an error
            obtain ⟨ta, x0, y0, rfl, hta, ne0⟩ := named_ne e du
            have kD1 : Keep (fun c => c = b ∨ Mx sl ll c ∨ c = wo) HC HD := kD.mono fun _ z => .inr (.inl z)
            have bD := bC.kp kD nMb
            have hdD := DA.keep kD1 (fun _ z => z) _ _ hd1
            refine ⟨fun σ' H' => σ' = [some (.ref b), some (.int (1 + r)), some (.ref a), some (.ref so), some (.ref wo), some (.ref nw), some (.ref sta), some (.int (0 + (i : Int))), some (.ref u), some (.ref ta), none, none, none, none, none, none] ∧ H' = HD, ?_, ?_⟩
            · refine ⟨_, rfl, ta, _, 0, _, rfl, rfl, .inl hta, rfl, rfl, _, rfl, if_false_of (decide_eq_false fun z => ne0 (V.str.inj z)) ?_⟩
              exact ⟨rfl, rfl⟩
            · rintro σ' H' ⟨rfl, rfl⟩
              exact fin _ _ _ so sta pre c ds sv _ (kC1.trans kD1) (bD.mono (by omega)) shD ch (fun s hs => (sok s hs).mono (by omega)) (by omega) (kD.lst esoC nMso) nso (DAs.keep kD1 (fun _ z => z) _ _ dsoC) (kD.lst ewoC nMwo) (kD.lst estaC nMsta) nsta lne (by omega) (fun x hx => (((llsB x hx).kp kC).kp kD).mono (by omega)) hdD.bot
      · rintro σ HA ⟨o7, o8, o9, so, sta, pre, c, ds, ws, sv, lv, rfl, kA, bA, shA, ch, sok, hds, hws, hwl, eso, nso, dso, ewo, _⟩
        exact ⟨o7, o8, o9, so, sta, pre, c, ds, ws, sv, rfl, kA, bA.mono (by omega), shA, ch, fun s hs => (sok s hs).mono (by omega), by omega, by omega, hwl, eso, nso, dso, ewo⟩
    · rintro σ HA ⟨o7, o8, o9, so, sta, pre, c, ds, ws, sv, rfl, kA, bA, shA, ch, sok, hds, hws, hwl, eso, nso, dso, ewo⟩
      have hchl := ch.len
      have llog := logF_len ws
      have nMwo : ¬ Mx sl ll wo := fun z => z.elim owo.2.1 owo.2.2
      have nMso : ¬ Mx sl ll so := fun z => nso (.inr (.inl z))
      have nMb : ¬ Mx sl ll b := fun z => z.elim (fun z => nslb z.symm) fun z => nllb z.symm
      have lsv : sv.length = ds.length := by rw [dso.length, List.length_map]
      -- the log
      refine ⟨_, rfl, sh_at shA ⟨a, sl, ll, _, _, rfl, shA, fun HB lg xs sB nlg elg dlg => ?_⟩⟩
      have ewoB := sB.at ewo
      have lxs : xs.length = 2 * ws.length := by rw [dlg.length, llog]
      have ell : V.int (xs.length : Int) = V.int (2 * ((ws.map V.str).length : Int)) := by
        rw [List.length_map, lxs]
        exact congrArg V.int (by omega)
      refine ⟨_, rfl, lg, xs, rfl, .inr elg, _, rfl, wo, _, rfl, .inr ewoB, _, _, rfl, rfl, .inl ⟨by decide, by decide⟩, rfl, _, rfl, if_false_of (not_dec ell) ?_⟩
      refine ⟨_, rfl, lg, rfl, ⟨_, SqL.of elg⟩, fun D hD => lc_list (K := K) (a := lg) (xs := xs) (fun j H' => Same HB H' ∧ H' D = some (.lst ((ws.take ((j + 1) / 2)).map V.str))) ⟨Same.new hD, upd_same⟩ (fun j H' _ z => SqL.of (z.1.at elg)) ?_ ?_⟩
      · rintro j x H' hx ⟨s2, hd⟩
        obtain ⟨dd, hd1, dx⟩ := dlg.getV hx
        obtain ⟨q, y, hq, hcase⟩ := logF_at hd1
        have hql := (List.getElem?_eq_some_iff.mp hq).1
        rcases hcase with ⟨ej, rfl⟩ | ⟨ej, rfl⟩
        · obtain ⟨t, u0, u1, rfl, ht, e0, e1⟩ := deed2 dx
          cases e0.strI
          cases e1.strI
          refine ⟨t, _, rfl, SqT.of (s2.at ht), rfl, _, _, rfl, _, _, rfl, rfl, rfl, _, rfl, rfl, _, rfl, if_true_of (decide_eq_true rfl) ?_⟩
          refine ⟨_, rfl, _, hd, ?_, s2.put hD, ?_⟩
          · rw [List.length_map, List.length_take]
            exact fit (by omega)
          · have e1 : (j + 1) / 2 = q := by omega
            have e2 : (j + 1 + 1) / 2 = q + 1 := by omega
            rw [upd_same, e1, e2, take_more hq, List.map_append]
            rfl
        · obtain ⟨t, u0, u1, rfl, ht, e0, e1⟩ := deed2 dx
          cases e0.strI
          cases e1.strI
          refine ⟨t, _, rfl, SqT.of (s2.at ht), rfl, _, _, rfl, _, _, rfl, rfl, rfl, _, rfl, rfl, _, rfl, if_false_of (decide_eq_false fun z => absurd (V.str.inj z) (by decide +kernel)) ?_⟩
          have e1 : (j + 1) / 2 = q + 1 := by omega
          have e2 : (j + 1 + 1) / 2 = q + 1 := by omega
          refine ⟨s2, ?_⟩
          rw [e2, ← e1]
          exact hd
      rintro HB2 ⟨s2, hd⟩
      have ehalf : (2 * ws.length + 1) / 2 = ws.length := by omega
      rw [lxs, ehalf, List.take_length] at hd
      refine ⟨_, rfl, .list (ws.map .str), .list (ws.map .str), (words_eq (M := Bt) hd (fun z => z)).dp, (words_eq (M := Bt) (s2.at ewoB) (fun z => z)).dp, (pl_words hwl).shaped (by decide), (pl_words hwl).shaped (by decide), _, rfl, ?_⟩
      rw [(pl_words hwl).eqv]
      refine if_false_of rfl ?_
      -- a new shed
      refine ⟨_, rfl, sh_mk fun HC an sl3 ll3 sC nan nsl3 nll3 shan => ?_⟩
      have sA2 : Same HA HB2 := sB.trans s2
      have sAC : Same HA HC := sA2.trans sC
      have shA2 := shA.same sA2
      have o3 := shA2.old nsl3
      have o4 := shA2.old nll3
      have oan := shA2.old nan
      have eso2 := sA2.at eso
      have nso3 : ¬ Mx sl3 ll3 so := fun z => by
        rcases z with z | z
        · rw [z, nsl3] at eso2
          cases eso2
        · rw [z, nll3] at eso2
          cases eso2
      have nsl_3 : ¬ Mx sl3 ll3 sl := fun z => z.elim (fun z => o3.2.1 z.symm) fun z => o4.2.1 z.symm
      have nll_3 : ¬ Mx sl3 ll3 ll := fun z => z.elim (fun z => o3.2.2 z.symm) fun z => o4.2.2 z.symm
      have b2' := bA.same sA2
      have nb3 : ¬ Mx sl3 ll3 b := fun z => by
        obtain ⟨_, _, _, e, _⟩ := b2'
        rcases z with z | z
        · rw [z, nsl3] at e
          cases e
        · rw [z, nll3] at e
          cases e
      have dso2 : DAs (fun c => (c = b ∨ Mx sl ll c ∨ c = wo) ∨ Mx sl3 ll3 c) HB2 (ds.map stD) sv := DAs.weak (fun c z => by
        rcases z with z | z | z
        · exact .inl z
        · exact .inr (z ▸ nsl3)
        · exact .inr (z ▸ nll3)) _ _ (dso.same sA2)
      have dsoC := dso2.same sC
      have esoC := sC.at eso2
      have shC := shA2.same sC
      generalize hsts : pre ++ [c] = sts at *
      -- done again
      refine ⟨_, rfl, so, sv, rfl, .inr esoC, _, _, rfl, rfl, (sv.length : Int) + 1, rfl, by omega, by omega, ?_⟩
      have en : ((sv.length : Int) + 1).toNat = ds.length + 1 := by omega
      rw [en]
      refine for_range (lo := 0) (n := ds.length + 1) (fun i σ H' => ∃ (o14 : Option V) (logA : List PyData), σ = [some (.ref b), some (.int (1 + r)), some (.ref a), some (.ref so), some (.ref wo), some (.ref nw), some (.ref sta), o7, o8, o9, some (.ref lg), none, none, some (.ref an), o14, none] ∧ Keep (Mx sl3 ll3) HC H' ∧ ShedAt A H' an sl3 ll3 (sts.take (i + 1)) logA ∧ logA.length ≤ 2 * i)
        ⟨none, [], rfl, Keep.refl, by rw [take_one ch.z]; exact shan, Nat.le_refl _⟩ ?_ ?_
      · rintro i σ HD hi ⟨o14, logA, rfl, kD, shD, hlA⟩
        have hlt : i < sts.length := by omega
        obtain ⟨si, hsi⟩ : ∃ si, sts[i]? = some si := ⟨_, List.getElem?_eq_getElem hlt⟩
        have oksi : SOk si 900 := sok si (List.mem_of_getElem? hsi)
        rw [take_more hsi] at shD
        have shbD := shC.kp kD nsl_3 nll_3
        have zi : V.int (0 + (i : Int)) = V.int (i : Int) := by rw [Int.zero_add]
        have e2 : ([V.ref a, V.int (0 + (i : Int))] : List V) = [.ref a, .int (i : Int)] := by rw [zi]
        refine ⟨_, rfl, an, sl3, ll3, _, si, _, rfl, shD, oksi, fun HE p sE dpE => ?_⟩
        have shbE := shbD.same sE
        refine ⟨_, rfl, sh_at shbE ⟨_, rfl, a, sl, ll, sts, _, i, e2, shbE, hlt, fun HF q slq llq sF nq nslq nllq shq => ?_⟩⟩
        rw [take_more hsi] at shq
        refine ⟨q, slq, llq, _, si, _, rfl, shq, oksi, fun HG p2 sG dpG => ?_⟩
        refine ⟨_, _, _, rfl, (dpE.same sF).same sG, dpG, sm_seen oksi, fun HH sH => ⟨_, rfl, if_false_of rfl ?_⟩⟩
        have sDH := ((sE.trans sF).trans sG).trans sH
        have shbH := shbD.same sDH
        have shH := shD.same sDH
        refine ⟨_, rfl, _, rfl, sh_at shbH ⟨_, rfl, a, sl, ll, sts, _, i, e2, shbH, hlt, fun HI q2 slq2 llq2 sI nq2 nslq2 nllq2 shq2 => ?_⟩⟩
        rw [take_more hsi] at shq2
        have shI := shH.same sI
        obtain ⟨dx1, fs1, i1⟩ := shI.ins
        obtain ⟨dx2, fs2, i2⟩ := shq2.ins
        refine ⟨an, q2, dx1, dx2, fs1, fs2, rfl, rfl, i1, i2, an, q2, sl3, ll3, slq2, llq2, _, _, si, _, _, rfl, shI, shq2, oksi, fun HJ sJ => ⟨_, rfl, _, rfl, if_false_of rfl ?_⟩⟩
        have sDJ := (sDH.trans sI).trans sJ
        have kJ := kD.trans (Keep.of sDJ)
        have esoJ := kJ.lst esoC nso3
        have dsoJ := DAs.keep kJ (fun _ z => .inr z) _ _ dsoC
        have shJ := shI.same sJ
        refine ⟨_, rfl, _, rfl, so, sv, rfl, .inr esoJ, _, _, rfl, rfl, _, rfl, ?_⟩
        by_cases c1 : i < ds.length
        · refine if_true_of (decide_eq_true (by omega)) ?_
          obtain ⟨⟨d, t⟩, hdt⟩ : ∃ dt, ds[i]? = some dt := ⟨_, List.getElem?_eq_getElem c1⟩
          obtain ⟨s1, s2', g1, g2, g3⟩ := ch.st i d t hdt
          rw [hsi] at g1
          cases g1
          have hmd : (ds.map stD)[i]? = some (stD (d, t)) := by rw [List.getElem?_map, hdt]; rfl
          obtain ⟨x, hx, dx⟩ := dsoJ.get hmd
          obtain ⟨tt, dv, tv, rfl, htt, ddv, dtv⟩ := deed2 dx
          have hat : atI sv (0 + (i : Int)) = some (.ref tt) := by
            rw [Int.zero_add]
            exact atI_nat hx
          refine ⟨_, rfl, _, rfl, _, rfl, so, sv, _, _, rfl, rfl, .inr esoJ, hat, tt, _, 0, _, rfl, rfl, .inl htt, rfl, ?_⟩
          refine ⟨an, sl3, ll3, _, si, logA, d, dv, rfl, DA.weak (fun c z => .inl (.inr z)) _ _ ddv, shJ, oksi, by rw [List.length_take]; omega, by omega, fun t' s' ea HK uu kK shK du => ?_, fun e ea => ?_⟩
          · rw [g3] at ea
            cases ea
            have kCK := kJ.trans kK
            have esoK := kCK.lst esoC nso3
            refine ⟨_, rfl, _, rfl, so, sv, _, _, rfl, rfl, .inr esoK, hat, tt, _, 1, _, rfl, rfl, .inl (kK.tup htt), rfl, ?_⟩
            refine ⟨_, _, toldD t, rfl, du.any, (DA.keep kK (fun _ z => .inr z) _ _ dtv).bot, sm_told (n := 3) (ch.tok hdt), fun HL sL => ⟨_, rfl, if_false_of rfl ?_⟩⟩
            refine ⟨_, logA ++ logD d.name, rfl, kCK.trans (Keep.of sL), ?_, ?_⟩
            · rw [show i + 1 + 1 = (i + 1) + 1 from rfl, take_more g2, take_more hsi]
              exact shK.same sL
            · rw [List.length_append]
              show logA.length + 2 ≤ _
              omega
          · rw [g3] at ea
            cases ea
        · refine if_false_of (decide_eq_false (by omega)) ?_
          refine if_false_of rfl ?_
          refine ⟨_, logA, rfl, kJ, ?_, by omega⟩
          rw [List.take_of_length_le (by omega), ← List.take_of_length_le (l := sts) (i := i + 1) (by omega), take_more hsi]
          exact shJ
      rintro σ HD ⟨o14, logA, rfl, kD, shD, hlA⟩
      rw [List.take_of_length_le (by omega)] at shD
      have shbD := shC.kp kD nsl_3 nll_3
      have esoD := kD.lst esoC nso3
      -- back again
      refine ⟨_, rfl, sh_at shbD ⟨a, sl, ll, sts, _, rfl, shbD, ch.ne, fun HE tw sl4 ll4 sE ntw nsl4 nll4 htw => ?_⟩⟩
      have o5 := shbD.old nsl4
      have o6 := shbD.old nll4
      have o7' := shD.old nsl4
      have o8' := shD.old nll4
      have tw4 : ∀ x, Mx sl ll x ∨ Mx sl3 ll3 x → ¬ Mx sl4 ll4 x := fun x hx z => by
        rcases z with z | z <;> subst z <;> rcases hx with (e | e) | (e | e)
        · exact o5.2.1 e
        · exact o5.2.2 e
        · exact o7'.2.1 e
        · exact o7'.2.2 e
        · exact o6.2.1 e
        · exact o6.2.2 e
        · exact o8'.2.1 e
        · exact o8'.2.2 e
      have esoE := sE.at esoD
      have a13 : ∀ x, Mx sl3 ll3 x → ¬ Mx sl ll x := fun x hx z => by
        rcases hx with e | e <;> rcases z with z | z
        · exact o3.2.1 (e.symm.trans z)
        · exact o3.2.2 (e.symm.trans z)
        · exact o4.2.1 (e.symm.trans z)
        · exact o4.2.2 (e.symm.trans z)
      refine ⟨_, rfl, so, sv, rfl, .inr esoE, (sv.length : Int), rfl, by omega, by omega, ?_⟩
      have en2 : ((sv.length : Int)).toNat = ds.length := by omega
      rw [en2]
      refine for_range (lo := 0) (n := ds.length) (fun i σ H' => ∃ (o14 : Option V) (logB logC : List PyData), σ = [some (.ref b), some (.int (1 + r)), some (.ref a), some (.ref so), some (.ref wo), some (.ref nw), some (.ref sta), o7, o8, o9, some (.ref lg), none, none, some (.ref an), o14, some (.ref tw)] ∧ Keep (fun x => Mx sl ll x ∨ Mx sl3 ll3 x) HE H' ∧
          ShedAt A H' a sl ll (sts.take (ds.length + 1 - i)) logB ∧ ShedAt A H' an sl3 ll3 (sts.take (ds.length + 1 - i)) logC ∧ logB.length ≤ 100 + 2 * i ∧ logC.length ≤ 100 + 2 * i)
        ⟨_, _, _, rfl, Keep.refl, by rw [List.take_of_length_le (by omega)]; exact shbD.same sE, by rw [List.take_of_length_le (by omega)]; exact shD.same sE, by omega, by omega⟩ ?_ ?_
      · rintro i σ HF hi ⟨o14, logB, logC, rfl, kF, sb, sn, lB, lC⟩
        have lt1 : (sts.take (ds.length + 1 - i)).length = ds.length + 1 - i := by rw [List.length_take]; omega
        have ek : ds.length + 1 - i = (ds.length - i) + 1 := by omega
        have back : (if 1 < (sts.take (ds.length + 1 - i)).length then (sts.take (ds.length + 1 - i)).dropLast else sts.take (ds.length + 1 - i)) = sts.take (ds.length - i) := by
          rw [if_pos (by omega), ek]
          exact take_back (by omega)
        have yes1 : decide (1 < (sts.take (ds.length + 1 - i)).length) = true := decide_eq_true (by omega)
        refine ⟨_, rfl, sh_at sb ⟨a, sl, ll, _, _, rfl, sb, by omega, fun HG kG sbG => ⟨_, _, rfl, rfl, _, rfl, if_false_of (not_dec yes1) ?_⟩⟩⟩
        rw [back] at sbG
        have snG := sn.kp kG (fun z => a13 sl3 (.inl rfl) z) fun z => a13 ll3 (.inr rfl) z
        refine ⟨_, rfl, sh_at snG ⟨an, sl3, ll3, _, _, rfl, snG, by omega, fun HH kH snH => ⟨_, _, rfl, rfl, _, rfl, if_false_of (not_dec yes1) ?_⟩⟩⟩
        rw [back] at snH
        have sbH := sbG.kp kH nsl_3 nll_3
        obtain ⟨pr, sx, ep⟩ := last_split (sts := sts.take (ds.length - i)) (fun z => by
          have : (sts.take (ds.length - i)).length = 0 := by rw [z]; rfl
          rw [List.length_take] at this
          omega)
        have oksx : SOk sx 900 := sok sx (by
          have : sx ∈ sts.take (ds.length - i) := by rw [ep]; simp
          exact List.mem_of_mem_take this)
        rw [ep] at sbH snH
        refine ⟨_, rfl, a, sl, ll, _, sx, _, rfl, sbH, oksx, fun HI p sI dpI => ?_⟩
        have snI := snH.same sI
        refine ⟨_, rfl, an, sl3, ll3, _, sx, _, rfl, snI, oksx, fun HJ p2 sJ dpJ => ?_⟩
        refine ⟨_, _, _, rfl, dpI.same sJ, dpJ, sm_seen oksx, fun HK sK => ⟨_, rfl, if_false_of rfl ?_⟩⟩
        have sHK := (sI.trans sJ).trans sK
        have ek2 : ds.length + 1 - (i + 1) = ds.length - i := by omega
        refine ⟨_, logB ++ logD "undo", logC ++ logD "undo", rfl, ((kF.trans (kG.mono fun _ z => .inl z)).trans (kH.mono fun _ z => .inr z)).trans (Keep.of sHK), ?_, ?_, ?_, ?_⟩
        · rw [ek2, ep]
          exact sbH.same sHK
        · rw [ek2, ep]
          exact snH.same sHK
        · rw [List.length_append]
          show logB.length + 2 ≤ _
          omega
        · rw [List.length_append]
          show logC.length + 2 ≤ _
          omega
      rintro σ HF ⟨o14, logB, logC, rfl, kF, sb, sn, lB, lC⟩
      have e1 : ds.length + 1 - ds.length = 1 := by omega
      rw [e1, take_one ch.z] at sb
      refine ⟨_, rfl, sh_at sb ⟨a, sl, ll, _, _, rfl, sb, by omega, fun HG kG sbG => ⟨_, _, rfl, rfl, _, rfl, if_true_of (decide_eq_true rfl) ?_⟩⟩⟩
      have sbG' : ShedAt A HG a sl ll ([] ++ [⟨1 + r, [], [], []⟩]) (logB ++ logD "undo") := sbG
      have ok0 : SOk (⟨1 + r, [], [], []⟩ : Sta) 900 := sok _ (List.mem_of_getElem? ch.z)
      refine ⟨_, rfl, _, rfl, sh_mk fun HH p sl5 ll5 sH np nsl5 nll5 shp => ⟨(sbG'.same sH).din (pre := []) (pre' := []) shp ok0, fun HI sI => ⟨_, rfl, if_true_of rfl ?_⟩⟩⟩
      have sI' : Same HH HI := sI
      have sGI := sH.trans sI'
      have kEI : Keep (fun x => Mx sl ll x ∨ Mx sl3 ll3 x) HE HI := (kF.trans (kG.mono fun _ z => .inl z)).trans (Keep.of sGI)
      have htwI := htw.kp kEI (fun z => tw4 sl4 z (.inl rfl)) fun z => tw4 ll4 z (.inr rfl)
      rw [← hsts] at htwI
      have bD := (bA.same sAC).kp kD nb3
      have bE := bD.same sE
      have bI := bE.kp kEI fun z => z.elim nMb nb3
      have nb4 : ¬ Mx sl4 ll4 b := fun z => by
        obtain ⟨_, _, _, e, _⟩ := bD
        rcases z with z | z
        · rw [z, nsl4] at e
          cases e
        · rw [z, nll4] at e
          cases e
      have okc : SOk c 900 := sok c (by rw [← hsts]; simp)
      have lpre : pre.length ≤ 900 := by
        have : (pre ++ [c]).length = ds.length + 1 := by rw [hsts]; exact hchl
        rw [List.length_append, List.length_singleton] at this
        omega
      refine ⟨_, rfl, _, rfl, b, tw, sl4, ll4, _, pre, c, _, rfl, bI, by omega, htwI, nb4, okc, lpre, by show 0 ≤ 9000; decide, fun HZ kZ => k HZ ?_⟩
      -- nothing that stood before was changed, but the box
      have kHA : Keep (fun x => x = b ∨ Mx sl ll x ∨ x = wo) H HA := (k08.mono fun _ z => .inl z).trans kA
      have fr : ∀ {t : Addr}, HA t = none → H t = none := fun {t} ft => by
        cases q : H t with
        | none => rfl
        | some o =>
          by_cases m : t = b ∨ Mx sl ll t ∨ t = wo
          · rcases m with z | (z | z) | z
            · obtain ⟨_, _, _, e, _⟩ := bA
              rw [z, e] at ft
              cases ft
            · rw [z, fsl] at q
              cases q
            · rw [z, fll] at q
              cases q
            · rw [z, fwo] at q
              cases q
          · rw [kHA t o q fun z => absurd z m] at ft
            cases ft
      have kAll : Keep (fun x => (x = b ∨ Mx sl ll x ∨ x = wo) ∨ Mx sl3 ll3 x ∨ Mx sl4 ll4 x) H HZ := by
        refine (kHA.mono fun _ z => .inl z).trans ?_
        refine (Keep.of sAC).trans ?_
        refine (kD.mono fun _ z => .inr (.inl z)).trans ?_
        refine (Keep.of sE).trans ?_
        refine (kEI.mono fun _ z => z.elim (fun z => .inl (.inr (.inl z))) fun z => .inr (.inl z)).trans ?_
        exact kZ.mono fun _ z => z.elim (fun z => .inl (.inl z)) fun z => .inr (.inr z)
      have fsl3 : H sl3 = none := fr (sA2.free nsl3)
      have fll3 : H ll3 = none := fr (sA2.free nll3)
      have fD : ∀ {t : Addr}, HD t = none → ¬ Mx sl3 ll3 t → H t = none := fun {t} ft nt => by
        refine fr ?_
        cases q : HA t with
        | none => rfl
        | some o =>
          rw [kD t o (sAC.at q) fun z => absurd z nt] at ft
          cases ft
      have fsl4 : H sl4 = none := fD nsl4 fun z => tw4 sl4 (.inr z) (.inl rfl)
      have fll4 : H ll4 = none := fD nll4 fun z => tw4 ll4 (.inr z) (.inr rfl)
      refine Keep.drop kAll fun x z => ?_
      rcases z with (z | (z | z) | z) | (z | z) | (z | z)
      · exact .inl z
      · exact .inr (z ▸ fsl)
      · exact .inr (z ▸ fll)
      · exact .inr (z ▸ fwo)
      · exact .inr (z ▸ fsl3)
      · exact .inr (z ▸ fll3)
      · exact .inr (z ▸ fsl4)
      · exact .inr (z ▸ fll4)
end
end Tw
set_option Elab.async false
set_option linter.all false
set_option maxRecDepth 100000
set_option maxHeartbeats 4000000
/-! the law; all defs together -/
namespace Tw
open PySem PySem.Spec PyProof.Rows L2
def spLaw (K : PySem.W.Frag) : Sp := fun vs H Q _ => ∃ (a : Addr) (ns : List Int), vs = [.ref a] ∧ SqL K H a (ns.map V.int) ∧ ns.length ≤ 63 ∧ ∀ H', Q (.bl true) H'
section
variable {P : Program} {w : World} {K : PySem.W.Frag} {mg : Str → Option Value} {base : Heap} {A : Ad}
theorem sc_law : FnScope ["_law_script", "_law_k"] ["_law_script"] (defScope s_law) := ⟨rfl, rfl, rfl, by decide +kernel, rfl, by decide +kernel, by decide +kernel⟩
theorem ok_law {f : Addr} {fd : FuncData} (F : Fun K "law" "law" s_law f fd) (T : TxG K mg A) (G1 : Cal P w K mg base CX0 2 A.box ["_law_script", "_law_k"] (spBox K)) (G2 : Cal P w K mg base CX0 9 A.right ["_law_box_here"] (spRight A)) : FnOk P w K mg base CX0 10 f fd ["_law_script"] (spLaw K) := by
  refine F.ok sc_law (fun vs H Q E h => ?_) (fun cdv A' outer s H vs Q E hr h => ?_)
  · obtain ⟨a, ns, rfl, _⟩ := h
    rfl
  · obtain ⟨a, ns, rfl, hs, hl, k⟩ := h
    have hr2 := hr.mono (j := 2) (by decide)
    refine ⟨_, pss_one (ps_ret (pe_callB (cr_all rfl) (by rfl) T.z_all PyProof.Rows.boot_all (pa_cons (pe_lc (own := [("_law_k", 1)]) (g := gName 1) (tt := tYes) (te := tFn (spRight A) (tCons (tFn (spBox K) (tCons (tVar 0) (tCons (tVar 1) tNil))) tNil)) rfl sc_law.nd
      (pi_range1 (by rfl) T.z_range (pa_cons (pe_op op_add pe_int (pe_callB (call_min2 rfl) (by rfl) T.z_min PyProof.Rows.boot_min (pa_cons pe_int (pa_cons (pe_callB call_len_seq (by rfl) T.z_len PySem.boot_len (pa_cons (pv 0) pa_nil)) pa_nil)))) pa_nil))
      (blkOk_by (N := ["_law_script", "_law_k"]) (sc := defScope s_law) (by decide +kernel)) (fun _ _ _ _ _ => pg_name (i := 1) sc_law.nd rfl (Or.inl rfl)) (fun _ _ _ _ _ => pts_nil)
      (fun _ _ _ _ _ => pe_fn G2 hr T.g_right (pa_cons (pe_fn G1 hr2 T.g_box (pa_cons (pv 0) (pa_cons (pv 1) pa_nil))) pa_nil))) pa_nil))), ?_⟩
    refine ⟨_, rfl, a, _, rfl, .inl hs, _, _, rfl, _, _, rfl, rfl, _, rfl, ?_, ?_, ?_⟩
    · show -(2 ^ 62 : Int) ≤ 1 + (if ((ns.map V.int).length : Int) < 2 then ((ns.map V.int).length : Int) else 2)
      split <;> omega
    · show 1 + (if ((ns.map V.int).length : Int) < 2 then ((ns.map V.int).length : Int) else 2) < (2 ^ 62 : Int)
      split <;> omega
    · obtain ⟨n, hn, en⟩ : ∃ n : Nat, n ≤ 3 ∧ (1 + (if ((ns.map V.int).length : Int) < 2 then ((ns.map V.int).length : Int) else 2)).toNat = n := ⟨_, by split <;> omega, rfl⟩
      refine fun D hD => ?_
      rw [en]
      refine lc_range (lo := 0) (n := n) (fun i H' => Same H H' ∧ H' D = some (.lst (List.replicate i (V.bl true)))) ⟨Same.new hD, upd_same⟩ ?_ ?_
      · rintro i H' hi ⟨s2, hd⟩
        have zi : ([V.ref a, V.int (0 + (i : Int))] : List V) = [.ref a, .int (i : Int)] := by rw [Int.zero_add]
        refine ⟨rfl, _, rfl, _, rfl, a, ns, i, zi, SqL.ext hs s2, by omega, fun H3 b s3 nb hb => ⟨b, rfl, hb, fun H4 k4 => ?_⟩⟩
        have s34 : Same H' H4 := Keep.same (M := Mb b) ((Keep.of s3).trans k4) fun c e => e ▸ nb
        refine ⟨_, s34.at hd, ?_, (s2.trans s34).put hD, ?_⟩
        · rw [List.length_replicate]
          exact fit (by omega)
        · rw [upd_same, List.replicate_succ']
      · rintro H' ⟨s2, hd⟩
        refine ⟨D, List.replicate n true, rfl, ?_, ?_⟩
        · rw [List.map_replicate]
          exact SqL.of hd
        · have e : (List.replicate n true).all id = true := by simp
          rw [e]
          exact k _
end
theorem all_ok {P : Program} {w : World} {K : PySem.W.Frag} {h : Heap} {mg : Str → Option Value} {fa : Addr} {A : Ad} (X : K.In h) (G : h.Ns mainGlobals mg) (hfa : mg "law" = some (.ref fa)) (N : TxN K A) (D : TxD K A) (C : TxC K A) (E : TxE K A) :
    ∃ fd : FuncData, (∀ (s : Shared) (u : Value), BindsTo s fd ⟨[u], []⟩ [("_law_script", u)]) ∧ ∀ base : Heap, K.In base → base.Ns mainGlobals mg → FnOk P w K mg base CX0 25 fa fd ["_law_script"] (spLaw K) := by
  have T : TxG K mg A := N.g X G
  have e := hfa.symm.trans T.g_law
  cases e
  obtain ⟨oc, od, kV, doc, pm, an, cdv, ct, osl, ll, lc⟩ := D.d_law.l
  refine ⟨PySem.W.fnOf "law" "law" (defArgs s_law) (defBody s_law) (defScope s_law) .none kV doc pm an cdv ct, fun s v => .of_eq rfl, fun base _ _ => ?_⟩
  obtain ⟨fdp, Fp⟩ := D.d_Sh_put

  obtain ⟨f_plain, F_plain⟩ := D.d_plain.fn
  have b_plain : L2.Binds K f_plain ["piles"] [] := F_plain.binds (ps := ["piles"]) fun _ _ _ _ _ _ us hl => match us, hl with | [_], _ => rfl
  have c_plain : Cal P w K mg base CX0 1 A.plain ["piles"] spPlain := ⟨f_plain, ok_plain F_plain T, D.d_plain.k, b_plain⟩
  obtain ⟨f_otherSide, F_otherSide⟩ := D.d_otherSide.fn
  have b_otherSide : L2.Binds K f_otherSide ["side"] [] := F_otherSide.binds (ps := ["side"]) fun _ _ _ _ _ _ us hl => match us, hl with | [_], _ => rfl
  have c_otherSide : Cal P w K mg base CX0 1 A.otherSide ["side"] spOther := ⟨f_otherSide, ok_other F_otherSide T, D.d_otherSide.k, b_otherSide⟩
  obtain ⟨f_pileOn, F_pileOn⟩ := D.d_pileOn.fn
  have b_pileOn : L2.Binds K f_pileOn ["piles", "side"] [] := F_pileOn.binds (ps := ["piles", "side"]) fun _ _ _ _ _ _ us hl => match us, hl with | [_, _], _ => rfl
  have c_pileOn : Cal P w K mg base CX0 1 A.pileOn ["piles", "side"] spPileOn := ⟨f_pileOn, ok_pileOn F_pileOn T, D.d_pileOn.k, b_pileOn⟩
  obtain ⟨f_weigh, F_weigh⟩ := D.d_weigh.fn
  have b_weigh : L2.Binds K f_weigh ["load", "items"] [] := F_weigh.binds (ps := ["load", "items"]) fun _ _ _ _ _ _ us hl => match us, hl with | [_, _], _ => rfl
  have c_weigh : Cal P w K mg base CX0 1 A.weigh ["load", "items"] spWeigh := ⟨f_weigh, ok_weigh F_weigh T, D.d_weigh.k, b_weigh⟩
  obtain ⟨f_liftsFrom, F_liftsFrom⟩ := D.d_liftsFrom.fn
  have b_liftsFrom : L2.Binds K f_liftsFrom ["load", "piles", "side"] [] := F_liftsFrom.binds (ps := ["load", "piles", "side"]) fun _ _ _ _ _ _ us hl => match us, hl with | [_, _, _], _ => rfl
  have c_liftsFrom : Cal P w K mg base CX0 2 A.liftsFrom ["load", "piles", "side"] spLiftsFrom := ⟨f_liftsFrom, ok_liftsFrom F_liftsFrom T c_pileOn c_weigh, D.d_liftsFrom.k, b_liftsFrom⟩
  obtain ⟨f_lifts, F_lifts⟩ := D.d_lifts.fn
  have b_lifts : L2.Binds K f_lifts ["load", "piles"] [] := F_lifts.binds (ps := ["load", "piles"]) fun _ _ _ _ _ _ us hl => match us, hl with | [_, _], _ => rfl
  have c_lifts : Cal P w K mg base CX0 3 A.lifts ["load", "piles"] spLifts := ⟨f_lifts, ok_lifts F_lifts T c_liftsFrom, D.d_lifts.k, b_lifts⟩
  obtain ⟨f_TooFew_init, F_TooFew_init⟩ := D.d_TooFew_init.fn
  have b_TooFew_init : L2.Binds K f_TooFew_init ["self", "many"] [] := F_TooFew_init.binds (ps := ["self", "many"]) fun _ _ _ _ _ _ us hl => match us, hl with | [_, _], _ => rfl
  have c_TooFew_init : Cal P w K mg base CX0 1 A.TooFew_init ["self", "many"] (spEr A.cTooFew "many") := ⟨f_TooFew_init, ok_few F_TooFew_init T E, D.d_TooFew_init.k, b_TooFew_init⟩
  obtain ⟨f_Empty_init, F_Empty_init⟩ := D.d_Empty_init.fn
  have b_Empty_init : L2.Binds K f_Empty_init ["self", "side"] [] := F_Empty_init.binds (ps := ["self", "side"]) fun _ _ _ _ _ _ us hl => match us, hl with | [_, _], _ => rfl
  have c_Empty_init : Cal P w K mg base CX0 1 A.Empty_init ["self", "side"] (spEr A.cEmpty "side") := ⟨f_Empty_init, ok_empty F_Empty_init T E, D.d_Empty_init.k, b_Empty_init⟩
  obtain ⟨f_TooHeavy_init, F_TooHeavy_init⟩ := D.d_TooHeavy_init.fn
  have b_TooHeavy_init : L2.Binds K f_TooHeavy_init ["self", "weight"] [] := F_TooHeavy_init.binds (ps := ["self", "weight"]) fun _ _ _ _ _ _ us hl => match us, hl with | [_, _], _ => rfl
  have c_TooHeavy_init : Cal P w K mg base CX0 1 A.TooHeavy_init ["self", "weight"] (spEr A.cTooHeavy "weight") := ⟨f_TooHeavy_init, ok_heavy F_TooHeavy_init T E, D.d_TooHeavy_init.k, b_TooHeavy_init⟩
  obtain ⟨f_lifted, F_lifted⟩ := D.d_lifted.fn
  have b_lifted : L2.Binds K f_lifted ["load", "piles", "lift"] [] := F_lifted.binds (ps := ["load", "piles", "lift"]) fun _ _ _ _ _ _ us hl => match us, hl with | [_, _, _], _ => rfl
  have c_lifted : Cal P w K mg base (L2.CX P w) 3 A.lifted ["load", "piles", "lift"] (spLifted A) := ⟨f_lifted, ok_lifted F_lifted T E c_plain c_otherSide c_pileOn c_weigh c_TooFew_init c_TooHeavy_init, D.d_lifted.k, b_lifted⟩
  obtain ⟨f_liftAll, F_liftAll⟩ := D.d_liftAll.fn
  have b_liftAll : L2.Binds K f_liftAll ["load", "piles", "row"] [] := F_liftAll.binds (ps := ["load", "piles", "row"]) fun _ _ _ _ _ _ us hl => match us, hl with | [_, _, _], _ => rfl
  have c_liftAll : Cal P w K mg base (L2.CX P w) 4 A.liftAll ["load", "piles", "row"] (spLiftAll A) := ⟨f_liftAll, ok_liftAll F_liftAll T c_plain c_lifted, D.d_liftAll.k, b_liftAll⟩
  obtain ⟨f_St_init, F_St_init⟩ := D.d_St_init.fn
  have b_St_init : L2.Binds K f_St_init ["self", "limit", "piles", "weights"] [] := F_St_init.binds (ps := ["self", "limit", "piles", "weights"]) fun _ _ _ _ _ _ us hl => match us, hl with | [_, _, _, _], _ => rfl
  have c_St_init : Cal P w K mg base CX0 2 A.St_init ["self", "limit", "piles", "weights"] (spStInit A) := ⟨f_St_init, ok_StInit F_St_init T C c_plain, D.d_St_init.k, b_St_init⟩
  obtain ⟨f_St_load, F_St_load⟩ := D.d_St_load.fn
  have b_St_load : L2.Binds K f_St_load ["self"] [] := F_St_load.binds (ps := ["self"]) fun _ _ _ _ _ _ us hl => match us, hl with | [_], _ => rfl
  have c_St_load : Cal P w K mg base CX0 1 A.St_load ["self"] (spLoad A) := ⟨f_St_load, ok_StLoad F_St_load T C, D.d_St_load.k, b_St_load⟩
  obtain ⟨f_St_with_piles, F_St_with_piles⟩ := D.d_St_with_piles.fn
  have b_St_with_piles : L2.Binds K f_St_with_piles ["self", "piles"] [] := F_St_with_piles.binds (ps := ["self", "piles"]) fun _ _ _ _ _ _ us hl => match us, hl with | [_, _], _ => rfl
  have c_St_with_piles : Cal P w K mg base CX0 4 A.St_with_piles ["self", "piles"] (spWithPiles A) := ⟨f_St_with_piles, ok_StWp F_St_with_piles T C c_St_init, D.d_St_with_piles.k, b_St_with_piles⟩
  obtain ⟨f_St_with_item, F_St_with_item⟩ := D.d_St_with_item.fn
  have b_St_with_item : L2.Binds K f_St_with_item ["self", "weight", "side"] [] := F_St_with_item.binds (ps := ["self", "weight", "side"]) fun _ _ _ _ _ _ us hl => match us, hl with | [_, _, _], _ => rfl
  have c_St_with_item : Cal P w K mg base CX0 4 A.St_with_item ["self", "weight", "side"] (spWithItem A) := ⟨f_St_with_item, ok_StWi F_St_with_item T C c_St_init, D.d_St_with_item.k, b_St_with_item⟩
  obtain ⟨f_St_top, F_St_top⟩ := D.d_St_top.fn
  have b_St_top : L2.Binds K f_St_top ["self", "side"] [] := F_St_top.binds (ps := ["self", "side"]) fun _ _ _ _ _ _ us hl => match us, hl with | [_, _], _ => rfl
  have c_St_top : Cal P w K mg base (L2.CX P w) 3 A.St_top ["self", "side"] (spTop A) := ⟨f_St_top, ok_StTop F_St_top T C E c_pileOn c_Empty_init, D.d_St_top.k, b_St_top⟩
  obtain ⟨f_St_present, F_St_present⟩ := D.d_St_present.fn
  have b_St_present : L2.Binds K f_St_present ["self"] [] := F_St_present.binds (ps := ["self"]) fun _ _ _ _ _ _ us hl => match us, hl with | [_], _ => rfl
  have c_St_present : Cal P w K mg base CX0 1 A.St_present ["self"] (spPresent A) := ⟨f_St_present, ok_StPresent F_St_present T C, D.d_St_present.k, b_St_present⟩
  obtain ⟨f_St_without, F_St_without⟩ := D.d_St_without.fn
  have b_St_without : L2.Binds K f_St_without ["self", "item"] [] := F_St_without.binds (ps := ["self", "item"]) fun _ _ _ _ _ _ us hl => match us, hl with | [_, _], _ => rfl
  have c_St_without : Cal P w K mg base CX0 5 A.St_without ["self", "item"] (spWithout A) := ⟨f_St_without, ok_StWithout F_St_without T C c_St_with_piles, D.d_St_without.k, b_St_without⟩
  obtain ⟨f_Sh_now, F_Sh_now⟩ := D.d_Sh_now.fn
  have b_Sh_now : L2.Binds K f_Sh_now ["self"] [] := F_Sh_now.binds (ps := ["self"]) fun _ _ _ _ _ _ us hl => match us, hl with | [_], _ => rfl
  have c_Sh_now : Cal P w K mg base CX0 1 A.Sh_now ["self"] (spNow A) := ⟨f_Sh_now, ok_now F_Sh_now C, D.d_Sh_now.k, b_Sh_now⟩
  obtain ⟨f_Sh_operations, F_Sh_operations⟩ := D.d_Sh_operations.fn
  have b_Sh_operations : L2.Binds K f_Sh_operations ["self"] [] := F_Sh_operations.binds (ps := ["self"]) fun _ _ _ _ _ _ us hl => match us, hl with | [_], _ => rfl
  have c_Sh_operations : Cal P w K mg base CX0 1 A.Sh_operations ["self"] (spOps A) := ⟨f_Sh_operations, ok_ops F_Sh_operations T C, D.d_Sh_operations.k, b_Sh_operations⟩
  obtain ⟨f_Sh_limit, F_Sh_limit⟩ := D.d_Sh_limit.fn
  have b_Sh_limit : L2.Binds K f_Sh_limit ["self"] [] := F_Sh_limit.binds (ps := ["self"]) fun _ _ _ _ _ _ us hl => match us, hl with | [_], _ => rfl
  have c_Sh_limit : Cal P w K mg base CX0 2 A.Sh_limit ["self"] (spLimit A) := ⟨f_Sh_limit, ok_limit F_Sh_limit C c_Sh_now, D.d_Sh_limit.k, b_Sh_limit⟩
  obtain ⟨f_Sh_piles, F_Sh_piles⟩ := D.d_Sh_piles.fn
  have b_Sh_piles : L2.Binds K f_Sh_piles ["self"] [] := F_Sh_piles.binds (ps := ["self"]) fun _ _ _ _ _ _ us hl => match us, hl with | [_], _ => rfl
  have c_Sh_piles : Cal P w K mg base CX0 2 A.Sh_piles ["self"] (spPiles A) := ⟨f_Sh_piles, ok_piles F_Sh_piles C c_Sh_now, D.d_Sh_piles.k, b_Sh_piles⟩
  obtain ⟨f_Sh_log, F_Sh_log⟩ := D.d_Sh_log.fn
  have b_Sh_log : L2.Binds K f_Sh_log ["self"] [] := F_Sh_log.binds (ps := ["self"]) fun _ _ _ _ _ _ us hl => match us, hl with | [_], _ => rfl
  have c_Sh_log : Cal P w K mg base CX0 1 A.Sh_log ["self"] (spLog A) := ⟨f_Sh_log, ok_log F_Sh_log T C, D.d_Sh_log.k, b_Sh_log⟩
  obtain ⟨f_Sh_lifts, F_Sh_lifts⟩ := D.d_Sh_lifts.fn
  have b_Sh_lifts : L2.Binds K f_Sh_lifts ["self"] [] := F_Sh_lifts.binds (ps := ["self"]) fun _ _ _ _ _ _ us hl => match us, hl with | [_], _ => rfl
  have c_Sh_lifts : Cal P w K mg base CX0 4 A.Sh_lifts ["self"] (spShLifts A) := ⟨f_Sh_lifts, ok_shlifts F_Sh_lifts T C c_Sh_now c_Sh_piles c_St_load c_lifts, D.d_Sh_lifts.k, b_Sh_lifts⟩
  obtain ⟨f_Sh_len, F_Sh_len⟩ := D.d_Sh_len.fn
  have b_Sh_len : L2.Binds K f_Sh_len ["self"] [] := F_Sh_len.binds (ps := ["self"]) fun _ _ _ _ _ _ us hl => match us, hl with | [_], _ => rfl
  have c_Sh_len : Cal P w K mg base CX0 2 A.Sh_len ["self"] (spShLen A) := ⟨f_Sh_len, ok_shlen F_Sh_len T C c_Sh_now c_St_present, D.d_Sh_len.k, b_Sh_len⟩
  obtain ⟨f_Sh_weights, F_Sh_weights⟩ := D.d_Sh_weights.fn
  have b_Sh_weights : L2.Binds K f_Sh_weights ["self"] [] := F_Sh_weights.binds (ps := ["self"]) fun _ _ _ _ _ _ us hl => match us, hl with | [_], _ => rfl
  have c_Sh_weights : Cal P w K mg base CX0 2 A.Sh_weights ["self"] (spWeights A) := ⟨f_Sh_weights, ok_shweights F_Sh_weights T C c_Sh_now c_St_present, D.d_Sh_weights.k, b_Sh_weights⟩
  obtain ⟨f_Sh_take, F_Sh_take⟩ := D.d_Sh_take.fn
  have b_Sh_take : L2.Binds K f_Sh_take ["self", "side"] [] := F_Sh_take.binds (ps := ["self", "side"]) fun _ _ _ _ _ _ us hl => match us, hl with | [_, _], _ => rfl
  have c_Sh_take : Cal P w K mg base (L2.CX P w) 6 A.Sh_take ["self", "side"] (spTake A) := ⟨f_Sh_take, ok_take F_Sh_take T C c_Sh_now c_St_top c_St_without, D.d_Sh_take.k, b_Sh_take⟩
  obtain ⟨f_Sh_lift, F_Sh_lift⟩ := D.d_Sh_lift.fn
  have b_Sh_lift : L2.Binds K f_Sh_lift ["self", "side", "many"] [] := F_Sh_lift.binds (ps := ["self", "side", "many"]) fun _ _ _ _ _ _ us hl => match us, hl with | [_, _, _], _ => rfl
  have c_Sh_lift : Cal P w K mg base (L2.CX P w) 5 A.Sh_lift ["self", "side", "many"] (spLift A) := ⟨f_Sh_lift, ok_lift F_Sh_lift T C c_Sh_now c_lifted c_St_with_piles c_St_load c_pileOn, D.d_Sh_lift.k, b_Sh_lift⟩
  obtain ⟨f_Sh_lift_all, F_Sh_lift_all⟩ := D.d_Sh_lift_all.fn
  have b_Sh_lift_all : L2.Binds K f_Sh_lift_all ["self", "row"] [] := F_Sh_lift_all.binds (ps := ["self", "row"]) fun _ _ _ _ _ _ us hl => match us, hl with | [_, _], _ => rfl
  have c_Sh_lift_all : Cal P w K mg base (L2.CX P w) 5 A.Sh_lift_all ["self", "row"] (spLiftAllM A) := ⟨f_Sh_lift_all, ok_lift_all F_Sh_lift_all T C c_Sh_now c_liftAll c_St_with_piles c_St_load, D.d_Sh_lift_all.k, b_Sh_lift_all⟩
  obtain ⟨f_Sh_set_limit, F_Sh_set_limit⟩ := D.d_Sh_set_limit.fn
  have b_Sh_set_limit : L2.Binds K f_Sh_set_limit ["self", "limit"] [] := F_Sh_set_limit.binds (ps := ["self", "limit"]) fun _ _ _ _ _ _ us hl => match us, hl with | [_, _], _ => rfl
  have c_Sh_set_limit : Cal P w K mg base CX0 4 A.Sh_set_limit ["self", "limit"] (spSetL A) := ⟨f_Sh_set_limit, ok_set_limit F_Sh_set_limit T C c_Sh_now c_St_init, D.d_Sh_set_limit.k, b_Sh_set_limit⟩
  obtain ⟨f_Sh_init, F_Sh_init⟩ := D.d_Sh_init.fn
  have b_Sh_init : L2.Binds K f_Sh_init ["self", "limit"] [] := F_Sh_init.binds (ps := ["self", "limit"]) fun _ _ _ _ _ _ us hl => match us, hl with | [_, _], _ => rfl
  have c_Sh_init : Cal P w K mg base CX0 4 A.Sh_init ["self", "limit"] (spShInit A) := ⟨f_Sh_init, ok_ShInit F_Sh_init T C c_St_init, D.d_Sh_init.k, b_Sh_init⟩
  obtain ⟨f_Sh_undo, F_Sh_undo⟩ := D.d_Sh_undo.fn
  have b_Sh_undo : L2.Binds K f_Sh_undo ["self"] [] := F_Sh_undo.binds (ps := ["self"]) fun _ _ _ _ _ _ us hl => match us, hl with | [_], _ => rfl
  have c_Sh_undo : Cal P w K mg base CX0 2 A.Sh_undo ["self"] (spUndo A) := ⟨f_Sh_undo, ok_undo F_Sh_undo T C c_Sh_operations, D.d_Sh_undo.k, b_Sh_undo⟩
  obtain ⟨f_Sh_as_of, F_Sh_as_of⟩ := D.d_Sh_as_of.fn
  have b_Sh_as_of : L2.Binds K f_Sh_as_of ["self", "many"] [] := F_Sh_as_of.binds (ps := ["self", "many"]) fun _ _ _ _ _ _ us hl => match us, hl with | [_, _], _ => rfl
  have c_Sh_as_of : Cal P w K mg base CX0 6 A.Sh_as_of ["self", "many"] (spAsOf A) := ⟨f_Sh_as_of, ok_as_of F_Sh_as_of T C c_Sh_operations c_Sh_limit c_Sh_init, D.d_Sh_as_of.k, b_Sh_as_of⟩
  obtain ⟨f_Sh_twin, F_Sh_twin⟩ := D.d_Sh_twin.fn
  have b_Sh_twin : L2.Binds K f_Sh_twin ["self"] [] := F_Sh_twin.binds (ps := ["self"]) fun _ _ _ _ _ _ us hl => match us, hl with | [_], _ => rfl
  have c_Sh_twin : Cal P w K mg base CX0 7 A.Sh_twin ["self"] (spTwin A) := ⟨f_Sh_twin, ok_twin F_Sh_twin C c_Sh_operations c_Sh_as_of, D.d_Sh_twin.k, b_Sh_twin⟩
  obtain ⟨f_Sh_eq, F_Sh_eq⟩ := D.d_Sh_eq.fn
  have b_Sh_eq : L2.Binds K f_Sh_eq ["self", "other"] [] := F_Sh_eq.binds (ps := ["self", "other"]) fun _ _ _ _ _ _ us hl => match us, hl with | [_, _], _ => rfl
  have c_Sh_eq : Cal P w K mg base CX0 3 A.Sh_eq ["self", "other"] (spEq A) := ⟨f_Sh_eq, ok_sheq F_Sh_eq T C c_Sh_limit c_Sh_piles c_Sh_weights, D.d_Sh_eq.k, b_Sh_eq⟩
  obtain ⟨f_Sh_repr, F_Sh_repr⟩ := D.d_Sh_repr.fn
  have b_Sh_repr : L2.Binds K f_Sh_repr ["self"] [] := F_Sh_repr.binds (ps := ["self"]) fun _ _ _ _ _ _ us hl => match us, hl with | [_], _ => rfl
  have c_Sh_repr : Cal P w K mg base CX0 4 A.Sh_repr ["self"] (spRepr A) := ⟨f_Sh_repr, ok_shrepr F_Sh_repr T C c_Sh_limit c_Sh_len, D.d_Sh_repr.k, b_Sh_repr⟩
  obtain ⟨f_Sh_state, F_Sh_state⟩ := D.d_Sh_state.fn
  have b_Sh_state : L2.Binds K f_Sh_state ["self"] [] := F_Sh_state.binds (ps := ["self"]) fun _ _ _ _ _ _ us hl => match us, hl with | [_], _ => rfl
  have c_Sh_state : Cal P w K mg base CX0 3 A.Sh_state ["self"] (spState A) := ⟨f_Sh_state, ok_shstate F_Sh_state T C c_Sh_now c_St_present c_Sh_piles c_Sh_limit c_Sh_weights, D.d_Sh_state.k, b_Sh_state⟩
  obtain ⟨f_cellAt, F_cellAt⟩ := D.d_cellAt.fn
  have b_cellAt : L2.Binds K f_cellAt ["_law_script", "_law_k"] [] := F_cellAt.binds (ps := ["_law_script", "_law_k"]) fun _ _ _ _ _ _ us hl => match us, hl with | [_, _], _ => rfl
  have c_cellAt : Cal P w K mg base CX0 1 A.cellAt ["_law_script", "_law_k"] (spCellL K) := ⟨f_cellAt, ok_cell F_cellAt T, D.d_cellAt.k, b_cellAt⟩
  obtain ⟨f_box, F_box⟩ := D.d_box.fn
  have b_box : L2.Binds K f_box ["_law_script", "_law_k"] [] := F_box.binds (ps := ["_law_script", "_law_k"]) fun _ _ _ _ _ _ us hl => match us, hl with | [_, _], _ => rfl
  have c_box : Cal P w K mg base CX0 2 A.box ["_law_script", "_law_k"] (spBox K) := ⟨f_box, ok_box F_box T c_cellAt, D.d_box.k, b_box⟩
  obtain ⟨f_take, F_take⟩ := D.d_take.fn
  have b_take : L2.Binds K f_take ["_law_box_here", "_law_below"] [] := F_take.binds (ps := ["_law_box_here", "_law_below"]) fun _ _ _ _ _ _ us hl => match us, hl with | [_, _], _ => rfl
  have c_take7 : Cal P w K mg base CX0 1 A.take ["_law_box_here", "_law_below"] (spTk 10000000 1) := ⟨f_take, ok_tk7 F_take , D.d_take.k, b_take⟩
  have c_take : Cal P w K mg base CX0 2 A.take ["_law_box_here", "_law_below"] (spTk 10000000000000 2) := ⟨f_take, ok_tk F_take T c_take7, D.d_take.k, b_take⟩
  obtain ⟨f_ofL, F_ofL⟩ := D.d_ofL.fn
  have b_ofL : L2.Binds K f_ofL ["_law_box_here", "_law_some"] [] := F_ofL.binds (ps := ["_law_box_here", "_law_some"]) fun _ _ _ _ _ _ us hl => match us, hl with | [_, _], _ => rfl
  have c_ofL : Cal P w K mg base CX0 3 A.ofL ["_law_box_here", "_law_some"] spOf := ⟨f_ofL, ok_of F_ofL T c_take, D.d_ofL.k, b_ofL⟩
  obtain ⟨f_lweigh, F_lweigh⟩ := D.d_lweigh.fn
  have b_lweigh : L2.Binds K f_lweigh ["_law_crate", "_law_some"] [] := F_lweigh.binds (ps := ["_law_crate", "_law_some"]) fun _ _ _ _ _ _ us hl => match us, hl with | [_, _], _ => rfl
  have c_lweigh : Cal P w K mg base CX0 1 A.lweigh ["_law_crate", "_law_some"] spWeigh := ⟨f_lweigh, ok_lweigh F_lweigh T, D.d_lweigh.k, b_lweigh⟩
  obtain ⟨f_hoists, F_hoists⟩ := D.d_hoists.fn
  have b_hoists : L2.Binds K f_hoists ["_law_crate", "_law_stacks"] [] := F_hoists.binds (ps := ["_law_crate", "_law_stacks"]) fun _ _ _ _ _ _ us hl => match us, hl with | [_, _], _ => rfl
  have c_hoists : Cal P w K mg base CX0 2 A.hoists ["_law_crate", "_law_stacks"] spLifts := ⟨f_hoists, ok_hoists F_hoists T c_lweigh, D.d_hoists.k, b_hoists⟩
  obtain ⟨f_hoisted, F_hoisted⟩ := D.d_hoisted.fn
  have b_hoisted : L2.Binds K f_hoisted ["_law_stacks", "_law_way", "_law_count"] [] := F_hoisted.binds (ps := ["_law_stacks", "_law_way", "_law_count"]) fun _ _ _ _ _ _ us hl => match us, hl with | [_, _, _], _ => rfl
  have c_hoisted : Cal P w K mg base CX0 1 A.hoisted ["_law_stacks", "_law_way", "_law_count"] spHoisted := ⟨f_hoisted, ok_hoisted F_hoisted T, D.d_hoisted.k, b_hoisted⟩
  obtain ⟨f_carried, F_carried⟩ := D.d_carried.fn
  have b_carried : L2.Binds K f_carried ["_law_box_here", "_law_crate", "_law_stacks", "_law_most"] [] := F_carried.binds (ps := ["_law_box_here", "_law_crate", "_law_stacks", "_law_most"]) fun _ _ _ _ _ _ us hl => match us, hl with | [_, _, _, _], _ => rfl
  have c_carried : Cal P w K mg base CX0 4 A.carried ["_law_box_here", "_law_crate", "_law_stacks", "_law_most"] spCarried := ⟨f_carried, ok_carried F_carried T c_take c_hoists c_ofL c_hoisted, D.d_carried.k, b_carried⟩
  obtain ⟨f_seen, F_seen⟩ := D.d_seen.fn
  have b_seen : L2.Binds K f_seen ["_law_barn"] [] := F_seen.binds (ps := ["_law_barn"]) fun _ _ _ _ _ _ us hl => match us, hl with | [_], _ => rfl
  have c_seen : Cal P w K mg base CX0 6 A.seen ["_law_barn"] (spSeen A) := ⟨f_seen, ok_seen F_seen T C c_Sh_limit c_Sh_piles c_Sh_weights c_Sh_state c_Sh_lifts c_Sh_operations c_Sh_len c_Sh_repr, D.d_seen.k, b_seen⟩
  obtain ⟨f_named, F_named⟩ := D.d_named.fn
  have b_named : L2.Binds K f_named ["_law_caught"] [] := F_named.binds (ps := ["_law_caught"]) fun _ _ _ _ _ _ us hl => match us, hl with | [_], _ => rfl
  have c_named : Cal P w K mg base CX0 1 A.named ["_law_caught"] (spNamed A) := ⟨f_named, ok_named F_named T E, D.d_named.k, b_named⟩
  have cPut : PutK P w K mg base A fdp := ⟨ok_put Fp T C c_Sh_now c_St_top c_St_with_item, put_b Fp, put_kb Fp⟩
  obtain ⟨f_asked, F_asked⟩ := D.d_asked.fn
  have b_asked : L2.Binds K f_asked ["_law_barn", "_law_deed_here"] [] := F_asked.binds (ps := ["_law_barn", "_law_deed_here"]) fun _ _ _ _ _ _ us hl => match us, hl with | [_, _], _ => rfl
  have c_asked : Cal P w K mg base CX0 7 A.asked ["_law_barn", "_law_deed_here"] (spAsked A) := ⟨f_asked, ok_asked F_asked T C E cPut c_Sh_take c_Sh_lift c_Sh_lift_all c_Sh_set_limit c_named, D.d_asked.k, b_asked⟩
  obtain ⟨f_same, F_same⟩ := D.d_same.fn
  have b_same : L2.Binds K f_same ["_law_found", "_law_due"] [] := F_same.binds (ps := ["_law_found", "_law_due"]) fun _ _ _ _ _ _ us hl => match us, hl with | [_, _], _ => rfl
  have c_same0 : Cal P w K mg base CX0 1 A.same ["_law_found", "_law_due"] (spSame 0) := ⟨f_same, ok_same0 F_same T, D.d_same.k, b_same⟩
  have c_same1 : Cal P w K mg base CX0 2 A.same ["_law_found", "_law_due"] (spSame 1) := ⟨f_same, ok_sameS F_same T c_same0, D.d_same.k, b_same⟩
  have c_same2 : Cal P w K mg base CX0 3 A.same ["_law_found", "_law_due"] (spSame 2) := ⟨f_same, ok_sameS F_same T c_same1, D.d_same.k, b_same⟩
  have c_same3 : Cal P w K mg base CX0 4 A.same ["_law_found", "_law_due"] (spSame 3) := ⟨f_same, ok_sameS F_same T c_same2, D.d_same.k, b_same⟩
  have c_same : Cal P w K mg base CX0 5 A.same ["_law_found", "_law_due"] (spSame 4) := ⟨f_same, ok_sameS F_same T c_same3, D.d_same.k, b_same⟩
  obtain ⟨f_expect, F_expect⟩ := D.d_expect.fn
  have b_expect : L2.Binds K f_expect ["_law_now", "_law_deed_here"] [] := F_expect.binds (ps := ["_law_now", "_law_deed_here"]) fun _ _ _ _ _ _ us hl => match us, hl with | [_, _], _ => rfl
  have c_expect : Cal P w K mg base CX0 2 A.expect ["_law_now", "_law_deed_here"] spExpect := ⟨f_expect, ok_expect F_expect T c_lweigh c_hoisted, D.d_expect.k, b_expect⟩
  obtain ⟨f_deed, F_deed⟩ := D.d_deed.fn
  have b_deed : L2.Binds K f_deed ["_law_box_here", "_law_now"] [] := F_deed.binds (ps := ["_law_box_here", "_law_now"]) fun _ _ _ _ _ _ us hl => match us, hl with | [_, _], _ => rfl
  have c_deed : Cal P w K mg base CX0 5 A.deed ["_law_box_here", "_law_now"] spDeed := ⟨f_deed, ok_deed F_deed T c_take c_hoists c_ofL c_carried, D.d_deed.k, b_deed⟩
  obtain ⟨f_rowRight, F_rowRight⟩ := D.d_rowRight.fn
  have b_rowRight : L2.Binds K f_rowRight ["_law_box_here", "_law_barn"] [] := F_rowRight.binds (ps := ["_law_box_here", "_law_barn"]) fun _ _ _ _ _ _ us hl => match us, hl with | [_, _], _ => rfl
  have c_rowRight : Cal P w K mg base CX0 8 A.rowRight ["_law_box_here", "_law_barn"] (spRow A) := ⟨f_rowRight, ok_row F_rowRight T C c_Sh_twin c_Sh_lifts c_ofL c_Sh_lift c_Sh_lift_all c_Sh_eq c_Sh_state, D.d_rowRight.k, b_rowRight⟩
  obtain ⟨f_right, F_right⟩ := D.d_right.fn
  have b_right : L2.Binds K f_right ["_law_box_here"] [] := F_right.binds (ps := ["_law_box_here"]) fun _ _ _ _ _ _ us hl => match us, hl with | [_], _ => rfl
  have c_right : Cal P w K mg base CX0 9 A.right ["_law_box_here"] (spRight A) := ⟨f_right, ok_right F_right T C ⟨c_take, c_ofL, c_Sh_init, c_Sh_undo, c_deed, c_asked, c_expect, c_Sh_log, c_same, c_seen, c_Sh_as_of, c_Sh_eq, c_Sh_twin, c_rowRight⟩, D.d_right.k, b_right⟩
  exact (ok_law (fun_mk (st := s_law) ll lc D.d_law.k) T c_box c_right).mono (by decide)
end Tw
namespace Tw
open PySem PySem.Spec PyProof.Rows L2
theorem walk {l : PySem.W.OpenLaw} {q : Program} {loose : List Str} {XP : (Str → Option Value) → Heap → Prop} {YP : World → Heap → Prop} {d : DefRec} {K : Params → PySem.W.Frag} (hn : l.most = some 63) (hdf : d.params.defaults = [])
    (hY : ∀ (w : World) (h : Heap), YP w h → (K w.params).In h)
    (F : ∀ (w : World) (mg : Str → Option Value) (fa : Addr) (h : Heap), (K w.params).In h → h.Ns mainGlobals mg → mg d.name = some (.ref fa) →
      ∃ fd : FuncData, (∀ (s : Shared) (u : Value), BindsTo s fd ⟨[u], []⟩ [("_law_script", u)]) ∧ ∀ base : Heap, (K w.params).In base → base.Ns mainGlobals mg → FnOk l.prog w (K w.params) mg base CX0 25 fa fd ["_law_script"] (spLaw (K w.params))) :
    PySem.W.WalkO q loose XP YP l.row.toRowW d [] (fun f vs => PySem.call f vs) :=
  L2.walk_of (n := 63) (k := 25) (x := "_law_script") (CX := fun _ => CX0) (sp := fun w => spLaw (K w.params)) hn (by decide) hdf ⟨rfl, by decide, by decide⟩ hY F (fun _ _ a ns hl _ hS => ⟨a, ns, rfl, hS, hl, fun _ => rfl⟩) fun _ _ _ _ _ z => z
end Tw
namespace Tw
open PySem PySem.Spec PyProof.Rows L2
theorem mkDefK {K : PySem.W.Frag} {x qual : Str} {st : Stmt} {f : Addr} {oc : Value} {od : Option Addr} {kV doc pm : Value} {an : Option Addr} {cdv ct : Value} {osl : Array (Option Value)}
    (l : K.lookup f = some ⟨oc, od, .func (PySem.W.fnOf x qual (defArgs st) (defBody st) (defScope st) .none kV doc pm an cdv ct), osl⟩) (c : PySem.W.codeIn K cdv qual = true) (k : PySem.W.keepIn K (.ref f) = true) : DefK K x qual st f :=
  ⟨⟨oc, od, kV, doc, pm, an, cdv, ct, osl, l, c⟩, k⟩
theorem mkFunD {K : PySem.W.Frag} {x qual : Str} {st : Stmt} {f D : Addr} {oc : Value} {od : Option Addr} {doc pm : Value} {an : Option Addr} {cdv ct : Value} {osl : Array (Option Value)} {s z : Str} {t : Nat}
    (l : K.lookup f = some ⟨oc, od, .func (PySem.W.fnOf x qual (defArgs st) (defBody st) (defScope st) .none (.ref D) doc pm an cdv ct), osl⟩) (c : PySem.W.codeIn K cdv qual = true) (d : PySem.W.nsIn K D s = some (some (.str z t))) (k : PySem.W.keepIn K (.ref f) = true) :
    ∃ fd, FunD K x qual (defArgs st) (defBody st) (defScope st) [] [(s, .str z)] f fd :=
  ⟨_, ⟨⟨oc, od, .none, .ref D, doc, pm, an, cdv, ct, osl, rfl, l, c, .inl ⟨rfl, rfl⟩, .inr ⟨D, rfl, fun q hq => by
    rw [List.mem_singleton.mp hq]
    exact ⟨_, d, ⟨t, rfl⟩⟩⟩⟩, k⟩⟩
theorem mkOexB {K : PySem.W.Frag} {C : Addr} {tl : List Value} {newId : String} {nm q : _} {N : _} {bs sn sub ab col dd k0 k1 k2 k3 k5 : _}
    (l : K.lookup C = some (excClassObj nm q C N bs tl true sn sub ab col dd k0 k1 k2 k3 k5 newId)) (sa : PySem.W.findIn K (.ref C) "__setattr__" = some (some (.builtin "object.__setattr__"))) (e : PySem.W.subIn K (.ref C) (.type "BaseException") = some true)
    (t : PySem.W.typeIn K (.ref C) = some (.type "type")) (k : PySem.W.keepIn K (.ref C) = true) : OexB K C tl newId := ⟨⟨nm, q, N, bs, sn, sub, ab, col, dd, k0, k1, k2, k3, k5, l⟩, sa, e, t, k⟩
theorem mkN {K : PySem.W.Frag} {a_plain a_otherSide a_pileOn a_weigh a_liftsFrom a_lifts a_lifted a_liftAll a_cellAt a_box a_take a_ofL a_same a_lweigh a_hoists a_hoisted a_carried a_seen a_expect a_asked a_named a_deed a_rowRight a_right a_law a_St_init a_St_load a_St_with_piles a_St_with_item a_St_top a_St_without a_St_present a_Sh_init a_Sh_now a_Sh_put a_Sh_take a_Sh_lift a_Sh_lift_all a_Sh_set_limit a_Sh_undo a_Sh_limit a_Sh_piles a_Sh_weights a_Sh_state a_Sh_lifts a_Sh_operations a_Sh_as_of a_Sh_twin a_Sh_log a_Sh_eq a_Sh_len a_Sh_repr a_TooFew_init a_Empty_init a_TooHeavy_init a_cState a_cShed a_cNoOperation a_cTooFew a_cEmpty a_cTooHeavy : Addr} {t33 : Nat} {t34 : Nat} (h0 : PySem.W.nsIn K mainGlobals "plain" = some (some (.ref a_plain)))
    (h1 : PySem.W.nsIn K mainGlobals "other_side" = some (some (.ref a_otherSide)))
    (h2 : PySem.W.nsIn K mainGlobals "pile_on" = some (some (.ref a_pileOn)))
    (h3 : PySem.W.nsIn K mainGlobals "weigh" = some (some (.ref a_weigh)))
    (h4 : PySem.W.nsIn K mainGlobals "lifts_from" = some (some (.ref a_liftsFrom)))
    (h5 : PySem.W.nsIn K mainGlobals "lifts" = some (some (.ref a_lifts)))
    (h6 : PySem.W.nsIn K mainGlobals "lifted" = some (some (.ref a_lifted)))
    (h7 : PySem.W.nsIn K mainGlobals "lift_all" = some (some (.ref a_liftAll)))
    (h8 : PySem.W.nsIn K mainGlobals "_law_cell_at" = some (some (.ref a_cellAt)))
    (h9 : PySem.W.nsIn K mainGlobals "_law_box" = some (some (.ref a_box)))
    (h10 : PySem.W.nsIn K mainGlobals "_law_take" = some (some (.ref a_take)))
    (h11 : PySem.W.nsIn K mainGlobals "_law_of" = some (some (.ref a_ofL)))
    (h12 : PySem.W.nsIn K mainGlobals "_law_same" = some (some (.ref a_same)))
    (h13 : PySem.W.nsIn K mainGlobals "_law_weigh" = some (some (.ref a_lweigh)))
    (h14 : PySem.W.nsIn K mainGlobals "_law_hoists" = some (some (.ref a_hoists)))
    (h15 : PySem.W.nsIn K mainGlobals "_law_hoisted" = some (some (.ref a_hoisted)))
    (h16 : PySem.W.nsIn K mainGlobals "_law_carried" = some (some (.ref a_carried)))
    (h17 : PySem.W.nsIn K mainGlobals "_law_seen_of" = some (some (.ref a_seen)))
    (h18 : PySem.W.nsIn K mainGlobals "_law_expect" = some (some (.ref a_expect)))
    (h19 : PySem.W.nsIn K mainGlobals "_law_asked" = some (some (.ref a_asked)))
    (h20 : PySem.W.nsIn K mainGlobals "_law_named" = some (some (.ref a_named)))
    (h21 : PySem.W.nsIn K mainGlobals "_law_deed" = some (some (.ref a_deed)))
    (h22 : PySem.W.nsIn K mainGlobals "_law_row_right" = some (some (.ref a_rowRight)))
    (h23 : PySem.W.nsIn K mainGlobals "_law_right" = some (some (.ref a_right)))
    (h24 : PySem.W.nsIn K mainGlobals "law" = some (some (.ref a_law)))
    (h25 : PySem.W.nsIn K mainGlobals "lifts_lifts" = some (some (.ref a_lifts)))
    (h26 : PySem.W.nsIn K mainGlobals "lift_all_lifts" = some (some (.ref a_liftAll)))
    (h27 : PySem.W.nsIn K mainGlobals "State" = some (some (.ref a_cState)))
    (h28 : PySem.W.nsIn K mainGlobals "Shed" = some (some (.ref a_cShed)))
    (h29 : PySem.W.nsIn K mainGlobals "NoOperation" = some (some (.ref a_cNoOperation)))
    (h30 : PySem.W.nsIn K mainGlobals "TooFew" = some (some (.ref a_cTooFew)))
    (h31 : PySem.W.nsIn K mainGlobals "Empty" = some (some (.ref a_cEmpty)))
    (h32 : PySem.W.nsIn K mainGlobals "TooHeavy" = some (some (.ref a_cTooHeavy)))
    (h33 : PySem.W.nsIn K mainGlobals "LEFT" = some (some (.str "left" t33)))
    (h34 : PySem.W.nsIn K mainGlobals "RIGHT" = some (some (.str "right" t34)))
    (h35 : PySem.W.nsIn K mainGlobals "tuple" = some none)
    (h36 : PySem.W.nsIn K mainGlobals "len" = some none)
    (h37 : PySem.W.nsIn K mainGlobals "sum" = some none)
    (h38 : PySem.W.nsIn K mainGlobals "range" = some none)
    (h39 : PySem.W.nsIn K mainGlobals "sorted" = some none)
    (h40 : PySem.W.nsIn K mainGlobals "list" = some none)
    (h41 : PySem.W.nsIn K mainGlobals "isinstance" = some none)
    (h42 : PySem.W.nsIn K mainGlobals "all" = some none)
    (h43 : PySem.W.nsIn K mainGlobals "zip" = some none)
    (h44 : PySem.W.nsIn K mainGlobals "min" = some none)
    (h45 : PySem.W.nsIn K mainGlobals "max" = some none)
    (h46 : PySem.W.nsIn K mainGlobals "abs" = some none)
    (h47 : PySem.W.nsIn K mainGlobals "int" = some none)
    (h48 : PySem.W.nsIn K mainGlobals "repr" = some none)
    (h49 : PySem.W.nsIn K mainGlobals "LookupError" = some none)
    (h50 : PySem.W.nsIn K mainGlobals "OverflowError" = some none)
    (h51 : PySem.W.nsIn K mainGlobals "KeyError" = some none)
    (h52 : PySem.W.nsIn K mainGlobals "IndexError" = some none)
    (h53 : PySem.W.nsIn K mainGlobals "bool" = some none)
    (h54 : PySem.W.nsIn K mainGlobals "str" = some none) : TxN K ⟨a_plain, a_otherSide, a_pileOn, a_weigh, a_liftsFrom, a_lifts, a_lifted, a_liftAll, a_cellAt, a_box, a_take, a_ofL, a_same, a_lweigh, a_hoists, a_hoisted, a_carried, a_seen, a_expect, a_asked, a_named, a_deed, a_rowRight, a_right, a_law, a_St_init, a_St_load, a_St_with_piles, a_St_with_item, a_St_top, a_St_without, a_St_present, a_Sh_init, a_Sh_now, a_Sh_put, a_Sh_take, a_Sh_lift, a_Sh_lift_all, a_Sh_set_limit, a_Sh_undo, a_Sh_limit, a_Sh_piles, a_Sh_weights, a_Sh_state, a_Sh_lifts, a_Sh_operations, a_Sh_as_of, a_Sh_twin, a_Sh_log, a_Sh_eq, a_Sh_len, a_Sh_repr, a_TooFew_init, a_Empty_init, a_TooHeavy_init, a_cState, a_cShed, a_cNoOperation, a_cTooFew, a_cEmpty, a_cTooHeavy⟩ := ⟨h0, h1, h2, h3, h4, h5, h6, h7, h8, h9, h10, h11, h12, h13, h14, h15, h16, h17, h18, h19, h20, h21, h22, h23, h24, h25, h26, h27, h28, h29, h30, h31, h32, ⟨t33, h33⟩, ⟨t34, h34⟩, h35, h36, h37, h38, h39, h40, h41, h42, h43, h44, h45, h46, h47, h48, h49, h50, h51, h52, h53, h54⟩
theorem mkC {K : PySem.W.Frag} {a_plain a_otherSide a_pileOn a_weigh a_liftsFrom a_lifts a_lifted a_liftAll a_cellAt a_box a_take a_ofL a_same a_lweigh a_hoists a_hoisted a_carried a_seen a_expect a_asked a_named a_deed a_rowRight a_right a_law a_St_init a_St_load a_St_with_piles a_St_with_item a_St_top a_St_without a_St_present a_Sh_init a_Sh_now a_Sh_put a_Sh_take a_Sh_lift a_Sh_lift_all a_Sh_set_limit a_Sh_undo a_Sh_limit a_Sh_piles a_Sh_weights a_Sh_state a_Sh_lifts a_Sh_operations a_Sh_as_of a_Sh_twin a_Sh_log a_Sh_eq a_Sh_len a_Sh_repr a_TooFew_init a_Empty_init a_TooHeavy_init a_cState a_cShed a_cNoOperation a_cTooFew a_cEmpty a_cTooHeavy : Addr} (h0 : Cls K a_cState)
    (h1 : Mk K a_cState a_St_init)
    (h2 : NoAttr K a_cState "own_limit")
    (h3 : NoAttr K a_cState "own_piles")
    (h4 : NoAttr K a_cState "own_weights")
    (h5 : Meth K a_cState "load" a_St_load)
    (h6 : Meth K a_cState "with_piles" a_St_with_piles)
    (h7 : Meth K a_cState "with_item" a_St_with_item)
    (h8 : Meth K a_cState "top" a_St_top)
    (h9 : Meth K a_cState "without" a_St_without)
    (h10 : Meth K a_cState "present" a_St_present)
    (h11 : Cls K a_cShed)
    (h12 : Mk K a_cShed a_Sh_init)
    (h13 : NoAttr K a_cShed "own_states")
    (h14 : NoAttr K a_cShed "own_log")
    (h15 : Meth K a_cShed "now" a_Sh_now)
    (h16 : Meth K a_cShed "put" a_Sh_put)
    (h17 : Meth K a_cShed "take" a_Sh_take)
    (h18 : Meth K a_cShed "lift" a_Sh_lift)
    (h19 : Meth K a_cShed "lift_all" a_Sh_lift_all)
    (h20 : Meth K a_cShed "set_limit" a_Sh_set_limit)
    (h21 : Meth K a_cShed "undo" a_Sh_undo)
    (h22 : Meth K a_cShed "limit" a_Sh_limit)
    (h23 : Meth K a_cShed "piles" a_Sh_piles)
    (h24 : Meth K a_cShed "weights" a_Sh_weights)
    (h25 : Meth K a_cShed "state" a_Sh_state)
    (h26 : Meth K a_cShed "lifts" a_Sh_lifts)
    (h27 : Meth K a_cShed "operations" a_Sh_operations)
    (h28 : Meth K a_cShed "as_of" a_Sh_as_of)
    (h29 : Meth K a_cShed "twin" a_Sh_twin)
    (h30 : Meth K a_cShed "log" a_Sh_log)
    (h31 : PySem.W.findIn K (.ref a_cShed) "__eq__" = some (some (.ref a_Sh_eq)))
    (h32 : PySem.W.isFn K (.ref a_Sh_eq) = true)
    (h33 : PySem.W.findIn K (.ref a_cShed) "__len__" = some (some (.ref a_Sh_len)))
    (h34 : PySem.W.isFn K (.ref a_Sh_len) = true)
    (h35 : PySem.W.findIn K (.ref a_cShed) "__repr__" = some (some (.ref a_Sh_repr)))
    (h36 : PySem.W.isFn K (.ref a_Sh_repr) = true)
    (h37 : PySem.W.findIn K (.ref a_cShed) "__ne__" = some (some (.builtin "object.__ne__")))
    (h38 : PySem.W.mroIn K a_cShed (.type "object") = some true)
    (h39 : PySem.W.findIn K (.ref a_cShed) "__class__" = some (some (.builtin "object.__class__")))
    (h40 : PySem.W.specialIn K (.builtin "object.__class__") "__get__" = some (some (.builtin "getset_descriptor.__get__")))
    (h41 : PySem.W.takesIn K (.builtin "object.__class__") = some true) : TxC K ⟨a_plain, a_otherSide, a_pileOn, a_weigh, a_liftsFrom, a_lifts, a_lifted, a_liftAll, a_cellAt, a_box, a_take, a_ofL, a_same, a_lweigh, a_hoists, a_hoisted, a_carried, a_seen, a_expect, a_asked, a_named, a_deed, a_rowRight, a_right, a_law, a_St_init, a_St_load, a_St_with_piles, a_St_with_item, a_St_top, a_St_without, a_St_present, a_Sh_init, a_Sh_now, a_Sh_put, a_Sh_take, a_Sh_lift, a_Sh_lift_all, a_Sh_set_limit, a_Sh_undo, a_Sh_limit, a_Sh_piles, a_Sh_weights, a_Sh_state, a_Sh_lifts, a_Sh_operations, a_Sh_as_of, a_Sh_twin, a_Sh_log, a_Sh_eq, a_Sh_len, a_Sh_repr, a_TooFew_init, a_Empty_init, a_TooHeavy_init, a_cState, a_cShed, a_cNoOperation, a_cTooFew, a_cEmpty, a_cTooHeavy⟩ := ⟨h0, h1, h2, h3, h4, h5, h6, h7, h8, h9, h10, h11, h12, h13, h14, h15, h16, h17, h18, h19, h20, h21, h22, h23, h24, h25, h26, h27, h28, h29, h30, h31, h32, h33, h34, h35, h36, h37, h38, h39, h40, h41⟩
theorem mkE {K : PySem.W.Frag} {a_plain a_otherSide a_pileOn a_weigh a_liftsFrom a_lifts a_lifted a_liftAll a_cellAt a_box a_take a_ofL a_same a_lweigh a_hoists a_hoisted a_carried a_seen a_expect a_asked a_named a_deed a_rowRight a_right a_law a_St_init a_St_load a_St_with_piles a_St_with_item a_St_top a_St_without a_St_present a_Sh_init a_Sh_now a_Sh_put a_Sh_take a_Sh_lift a_Sh_lift_all a_Sh_set_limit a_Sh_undo a_Sh_limit a_Sh_piles a_Sh_weights a_Sh_state a_Sh_lifts a_Sh_operations a_Sh_as_of a_Sh_twin a_Sh_log a_Sh_eq a_Sh_len a_Sh_repr a_TooFew_init a_Empty_init a_TooHeavy_init a_cState a_cShed a_cNoOperation a_cTooFew a_cEmpty a_cTooHeavy : Addr} (h0 : OexB K a_cTooFew tlLk "LookupError.__new__")
    (h1 : PySem.W.findIn K (.ref a_cTooFew) "many" = some none)
    (h2 : PySem.W.findIn K (.ref a_cTooFew) "__init__" = some (some (.ref a_TooFew_init)))
    (h3 : PySem.W.typeIn K (.ref a_TooFew_init) = some (.type "function"))
    (h4 : XfC K a_cTooFew)
    (h5 : ExcC K a_cTooFew)
    (h6 : PySem.W.subIn K (.ref a_cTooFew) (.ref a_cNoOperation) = some false)
    (h7 : PySem.W.subIn K (.ref a_cTooFew) (.ref a_cEmpty) = some false)
    (h8 : PySem.W.subIn K (.ref a_cTooFew) (.ref a_cTooFew) = some true)
    (h9 : PySem.W.subIn K (.ref a_cTooFew) (.ref a_cTooHeavy) = some false)
    (h10 : PySem.W.subIn K (.ref a_cTooFew) (.type "KeyError") = some false)
    (h11 : PySem.W.subIn K (.ref a_cTooFew) (.type "IndexError") = some false)
    (h12 : PySem.W.subIn K (.ref a_cTooFew) (.type "LookupError") = some true)
    (h13 : OexB K a_cEmpty tlLk "LookupError.__new__")
    (h14 : PySem.W.findIn K (.ref a_cEmpty) "side" = some none)
    (h15 : PySem.W.findIn K (.ref a_cEmpty) "__init__" = some (some (.ref a_Empty_init)))
    (h16 : PySem.W.typeIn K (.ref a_Empty_init) = some (.type "function"))
    (h17 : XfC K a_cEmpty)
    (h18 : ExcC K a_cEmpty)
    (h19 : PySem.W.subIn K (.ref a_cEmpty) (.ref a_cNoOperation) = some false)
    (h20 : PySem.W.subIn K (.ref a_cEmpty) (.ref a_cEmpty) = some true)
    (h21 : PySem.W.subIn K (.ref a_cEmpty) (.ref a_cTooFew) = some false)
    (h22 : PySem.W.subIn K (.ref a_cEmpty) (.ref a_cTooHeavy) = some false)
    (h23 : PySem.W.subIn K (.ref a_cEmpty) (.type "KeyError") = some false)
    (h24 : PySem.W.subIn K (.ref a_cEmpty) (.type "IndexError") = some false)
    (h25 : PySem.W.subIn K (.ref a_cEmpty) (.type "LookupError") = some true)
    (h26 : OexB K a_cTooHeavy tlOv "OverflowError.__new__")
    (h27 : PySem.W.findIn K (.ref a_cTooHeavy) "weight" = some none)
    (h28 : PySem.W.findIn K (.ref a_cTooHeavy) "__init__" = some (some (.ref a_TooHeavy_init)))
    (h29 : PySem.W.typeIn K (.ref a_TooHeavy_init) = some (.type "function"))
    (h30 : XfC K a_cTooHeavy)
    (h31 : ExcC K a_cTooHeavy)
    (h32 : PySem.W.subIn K (.ref a_cTooHeavy) (.ref a_cNoOperation) = some false)
    (h33 : PySem.W.subIn K (.ref a_cTooHeavy) (.ref a_cEmpty) = some false)
    (h34 : PySem.W.subIn K (.ref a_cTooHeavy) (.ref a_cTooFew) = some false)
    (h35 : PySem.W.subIn K (.ref a_cTooHeavy) (.ref a_cTooHeavy) = some true)
    (h36 : PySem.W.subIn K (.ref a_cTooHeavy) (.type "KeyError") = some false)
    (h37 : PySem.W.subIn K (.ref a_cTooHeavy) (.type "IndexError") = some false)
    (h38 : PySem.W.subIn K (.ref a_cTooHeavy) (.type "OverflowError") = some true)
    (h39 : PySem.W.isClsIn K a_cNoOperation = true)
    (h40 : PySem.W.typeIn K (.ref a_cNoOperation) = some (.type "type"))
    (h41 : PySem.W.subIn K (.ref a_cNoOperation) (.type "BaseException") = some true)
    (h42 : PySem.W.isClsIn K a_cEmpty = true)
    (h43 : PySem.W.typeIn K (.ref a_cEmpty) = some (.type "type"))
    (h44 : PySem.W.subIn K (.ref a_cEmpty) (.type "BaseException") = some true)
    (h45 : PySem.W.isClsIn K a_cTooFew = true)
    (h46 : PySem.W.typeIn K (.ref a_cTooFew) = some (.type "type"))
    (h47 : PySem.W.subIn K (.ref a_cTooFew) (.type "BaseException") = some true)
    (h48 : PySem.W.isClsIn K a_cTooHeavy = true)
    (h49 : PySem.W.typeIn K (.ref a_cTooHeavy) = some (.type "type"))
    (h50 : PySem.W.subIn K (.ref a_cTooHeavy) (.type "BaseException") = some true)
    (h51 : PySem.W.findCls K (.type "LookupError") (.type "type") "__init__" = some (.val (.builtin "LookupError.__init__")))
    (h52 : PySem.W.findCls K (.type "OverflowError") (.type "type") "__init__" = some (.val (.builtin "OverflowError.__init__"))) : TxE K ⟨a_plain, a_otherSide, a_pileOn, a_weigh, a_liftsFrom, a_lifts, a_lifted, a_liftAll, a_cellAt, a_box, a_take, a_ofL, a_same, a_lweigh, a_hoists, a_hoisted, a_carried, a_seen, a_expect, a_asked, a_named, a_deed, a_rowRight, a_right, a_law, a_St_init, a_St_load, a_St_with_piles, a_St_with_item, a_St_top, a_St_without, a_St_present, a_Sh_init, a_Sh_now, a_Sh_put, a_Sh_take, a_Sh_lift, a_Sh_lift_all, a_Sh_set_limit, a_Sh_undo, a_Sh_limit, a_Sh_piles, a_Sh_weights, a_Sh_state, a_Sh_lifts, a_Sh_operations, a_Sh_as_of, a_Sh_twin, a_Sh_log, a_Sh_eq, a_Sh_len, a_Sh_repr, a_TooFew_init, a_Empty_init, a_TooHeavy_init, a_cState, a_cShed, a_cNoOperation, a_cTooFew, a_cEmpty, a_cTooHeavy⟩ := ⟨h0, h1, h2, h3, h4, h5, h6, h7, h8, h9, h10, h11, h12, h13, h14, h15, h16, h17, h18, h19, h20, h21, h22, h23, h24, h25, h26, h27, h28, h29, h30, h31, h32, h33, h34, h35, h36, h37, h38, h39, h40, h41, h42, h43, h44, h45, h46, h47, h48, h49, h50, h51, h52⟩
theorem mkD {K : PySem.W.Frag} {a_plain a_otherSide a_pileOn a_weigh a_liftsFrom a_lifts a_lifted a_liftAll a_cellAt a_box a_take a_ofL a_same a_lweigh a_hoists a_hoisted a_carried a_seen a_expect a_asked a_named a_deed a_rowRight a_right a_law a_St_init a_St_load a_St_with_piles a_St_with_item a_St_top a_St_without a_St_present a_Sh_init a_Sh_now a_Sh_put a_Sh_take a_Sh_lift a_Sh_lift_all a_Sh_set_limit a_Sh_undo a_Sh_limit a_Sh_piles a_Sh_weights a_Sh_state a_Sh_lifts a_Sh_operations a_Sh_as_of a_Sh_twin a_Sh_log a_Sh_eq a_Sh_len a_Sh_repr a_TooFew_init a_Empty_init a_TooHeavy_init a_cState a_cShed a_cNoOperation a_cTooFew a_cEmpty a_cTooHeavy : Addr} (h0 : DefK K "plain" "plain" s_plain a_plain)
    (h1 : DefK K "other_side" "other_side" s_otherSide a_otherSide)
    (h2 : DefK K "pile_on" "pile_on" s_pileOn a_pileOn)
    (h3 : DefK K "weigh" "weigh" s_weigh a_weigh)
    (h4 : DefK K "lifts_from" "lifts_from" s_liftsFrom a_liftsFrom)
    (h5 : DefK K "lifts" "lifts" s_lifts a_lifts)
    (h6 : DefK K "lifted" "lifted" s_lifted a_lifted)
    (h7 : DefK K "lift_all" "lift_all" s_liftAll a_liftAll)
    (h8 : DefK K "_law_cell_at" "_law_cell_at" s_cellAt a_cellAt)
    (h9 : DefK K "_law_box" "_law_box" s_box a_box)
    (h10 : DefK K "_law_take" "_law_take" s_take a_take)
    (h11 : DefK K "_law_of" "_law_of" s_ofL a_ofL)
    (h12 : DefK K "_law_same" "_law_same" s_same a_same)
    (h13 : DefK K "_law_weigh" "_law_weigh" s_lweigh a_lweigh)
    (h14 : DefK K "_law_hoists" "_law_hoists" s_hoists a_hoists)
    (h15 : DefK K "_law_hoisted" "_law_hoisted" s_hoisted a_hoisted)
    (h16 : DefK K "_law_carried" "_law_carried" s_carried a_carried)
    (h17 : DefK K "_law_seen_of" "_law_seen_of" s_seen a_seen)
    (h18 : DefK K "_law_expect" "_law_expect" s_expect a_expect)
    (h19 : DefK K "_law_asked" "_law_asked" s_asked a_asked)
    (h20 : DefK K "_law_named" "_law_named" s_named a_named)
    (h21 : DefK K "_law_deed" "_law_deed" s_deed a_deed)
    (h22 : DefK K "_law_row_right" "_law_row_right" s_rowRight a_rowRight)
    (h23 : DefK K "_law_right" "_law_right" s_right a_right)
    (h24 : DefK K "law" "law" s_law a_law)
    (h25 : DefK K "__init__" "State.__init__" s_St_init a_St_init)
    (h26 : DefK K "load" "State.load" s_St_load a_St_load)
    (h27 : DefK K "with_piles" "State.with_piles" s_St_with_piles a_St_with_piles)
    (h28 : DefK K "with_item" "State.with_item" s_St_with_item a_St_with_item)
    (h29 : DefK K "top" "State.top" s_St_top a_St_top)
    (h30 : DefK K "without" "State.without" s_St_without a_St_without)
    (h31 : DefK K "present" "State.present" s_St_present a_St_present)
    (h32 : DefK K "__init__" "Shed.__init__" s_Sh_init a_Sh_init)
    (h33 : DefK K "now" "Shed.now" s_Sh_now a_Sh_now)
    (h34 : ∃ fd, FunD K "put" "Shed.put" (defArgs s_Sh_put) (defBody s_Sh_put) (defScope s_Sh_put) [] [("side", .str "left")] a_Sh_put fd)
    (h35 : DefK K "take" "Shed.take" s_Sh_take a_Sh_take)
    (h36 : DefK K "lift" "Shed.lift" s_Sh_lift a_Sh_lift)
    (h37 : DefK K "lift_all" "Shed.lift_all" s_Sh_lift_all a_Sh_lift_all)
    (h38 : DefK K "set_limit" "Shed.set_limit" s_Sh_set_limit a_Sh_set_limit)
    (h39 : DefK K "undo" "Shed.undo" s_Sh_undo a_Sh_undo)
    (h40 : DefK K "limit" "Shed.limit" s_Sh_limit a_Sh_limit)
    (h41 : DefK K "piles" "Shed.piles" s_Sh_piles a_Sh_piles)
    (h42 : DefK K "weights" "Shed.weights" s_Sh_weights a_Sh_weights)
    (h43 : DefK K "state" "Shed.state" s_Sh_state a_Sh_state)
    (h44 : DefK K "lifts" "Shed.lifts" s_Sh_lifts a_Sh_lifts)
    (h45 : DefK K "operations" "Shed.operations" s_Sh_operations a_Sh_operations)
    (h46 : DefK K "as_of" "Shed.as_of" s_Sh_as_of a_Sh_as_of)
    (h47 : DefK K "twin" "Shed.twin" s_Sh_twin a_Sh_twin)
    (h48 : DefK K "log" "Shed.log" s_Sh_log a_Sh_log)
    (h49 : DefK K "__eq__" "Shed.__eq__" s_Sh_eq a_Sh_eq)
    (h50 : DefK K "__len__" "Shed.__len__" s_Sh_len a_Sh_len)
    (h51 : DefK K "__repr__" "Shed.__repr__" s_Sh_repr a_Sh_repr)
    (h52 : DefK K "__init__" "TooFew.__init__" s_TooFew_init a_TooFew_init)
    (h53 : DefK K "__init__" "Empty.__init__" s_Empty_init a_Empty_init)
    (h54 : DefK K "__init__" "TooHeavy.__init__" s_TooHeavy_init a_TooHeavy_init) : TxD K ⟨a_plain, a_otherSide, a_pileOn, a_weigh, a_liftsFrom, a_lifts, a_lifted, a_liftAll, a_cellAt, a_box, a_take, a_ofL, a_same, a_lweigh, a_hoists, a_hoisted, a_carried, a_seen, a_expect, a_asked, a_named, a_deed, a_rowRight, a_right, a_law, a_St_init, a_St_load, a_St_with_piles, a_St_with_item, a_St_top, a_St_without, a_St_present, a_Sh_init, a_Sh_now, a_Sh_put, a_Sh_take, a_Sh_lift, a_Sh_lift_all, a_Sh_set_limit, a_Sh_undo, a_Sh_limit, a_Sh_piles, a_Sh_weights, a_Sh_state, a_Sh_lifts, a_Sh_operations, a_Sh_as_of, a_Sh_twin, a_Sh_log, a_Sh_eq, a_Sh_len, a_Sh_repr, a_TooFew_init, a_Empty_init, a_TooHeavy_init, a_cState, a_cShed, a_cNoOperation, a_cTooFew, a_cEmpty, a_cTooHeavy⟩ := ⟨h0, h1, h2, h3, h4, h5, h6, h7, h8, h9, h10, h11, h12, h13, h14, h15, h16, h17, h18, h19, h20, h21, h22, h23, h24, h25, h26, h27, h28, h29, h30, h31, h32, h33, h34, h35, h36, h37, h38, h39, h40, h41, h42, h43, h44, h45, h46, h47, h48, h49, h50, h51, h52, h53, h54⟩
end Tw
open PySem PySem.W PyProof.Rows in
set_option maxRecDepth 100000 in
set_option maxHeartbeats 0 in
theorem PySem.Challenge.cw_twopiles_k85_whole_a_shed_made_anew_holds : PySem.Challenge.rw_twopiles_k85_whole_a_shed_made_anew.Holds := by
  w_on; o_law; k_head; (case hw => w_witness2)
  k_fill
  refine Tw.walk (l := PySem.Challenge.rw_twopiles_k85_whole_a_shed_made_anew) rfl rfl (fun w h Y => PySem.W.kIn_of Y) ?F
  case F =>
    intro w mg fa h KX G hmg
    refine' Tw.all_ok KX G hmg (Tw.mkN ?g1 ?g2 ?g3 ?g4 ?g5 ?g6 ?g7 ?g8 ?g9 ?g10 ?g11 ?g12 ?g13 ?g14 ?g15 ?g16 ?g17 ?g18 ?g19 ?g20 ?g21 ?g22 ?g23 ?g24 ?g25 ?g26 ?g27 ?g28 ?g29 ?g30 ?g31 ?g32 ?g33 ?g34 ?g35 ?g36 ?g37 ?g38 ?g39 ?g40 ?g41 ?g42 ?g43 ?g44 ?g45 ?g46 ?g47 ?g48 ?g49 ?g50 ?g51 ?g52 ?g53 ?g54 ?g55) (Tw.mkD (Tw.mkDefK ?g249 ?g250 ?g251) (Tw.mkDefK ?g252 ?g253 ?g254) (Tw.mkDefK ?g255 ?g256 ?g257) (Tw.mkDefK ?g258 ?g259 ?g260) (Tw.mkDefK ?g261 ?g262 ?g263) (Tw.mkDefK ?g264 ?g265 ?g266) (Tw.mkDefK ?g267 ?g268 ?g269) (Tw.mkDefK ?g270 ?g271 ?g272) (Tw.mkDefK ?g273 ?g274 ?g275) (Tw.mkDefK ?g276 ?g277 ?g278) (Tw.mkDefK ?g279 ?g280 ?g281) (Tw.mkDefK ?g282 ?g283 ?g284) (Tw.mkDefK ?g285 ?g286 ?g287) (Tw.mkDefK ?g288 ?g289 ?g290) (Tw.mkDefK ?g291 ?g292 ?g293) (Tw.mkDefK ?g294 ?g295 ?g296) (Tw.mkDefK ?g297 ?g298 ?g299) (Tw.mkDefK ?g300 ?g301 ?g302) (Tw.mkDefK ?g303 ?g304 ?g305) (Tw.mkDefK ?g306 ?g307 ?g308) (Tw.mkDefK ?g309 ?g310 ?g311) (Tw.mkDefK ?g312 ?g313 ?g314) (Tw.mkDefK ?g315 ?g316 ?g317) (Tw.mkDefK ?g318 ?g319 ?g320) (Tw.mkDefK ?g321 ?g322 ?g323) (Tw.mkDefK ?g324 ?g325 ?g326) (Tw.mkDefK ?g327 ?g328 ?g329) (Tw.mkDefK ?g330 ?g331 ?g332) (Tw.mkDefK ?g333 ?g334 ?g335) (Tw.mkDefK ?g336 ?g337 ?g338) (Tw.mkDefK ?g339 ?g340 ?g341) (Tw.mkDefK ?g342 ?g343 ?g344) (Tw.mkDefK ?g345 ?g346 ?g347) (Tw.mkDefK ?g348 ?g349 ?g350) (Tw.mkFunD ?g351 ?g352 ?g353 ?g354) (Tw.mkDefK ?g355 ?g356 ?g357) (Tw.mkDefK ?g358 ?g359 ?g360) (Tw.mkDefK ?g361 ?g362 ?g363) (Tw.mkDefK ?g364 ?g365 ?g366) (Tw.mkDefK ?g367 ?g368 ?g369) (Tw.mkDefK ?g370 ?g371 ?g372) (Tw.mkDefK ?g373 ?g374 ?g375) (Tw.mkDefK ?g376 ?g377 ?g378) (Tw.mkDefK ?g379 ?g380 ?g381) (Tw.mkDefK ?g382 ?g383 ?g384) (Tw.mkDefK ?g385 ?g386 ?g387) (Tw.mkDefK ?g388 ?g389 ?g390) (Tw.mkDefK ?g391 ?g392 ?g393) (Tw.mkDefK ?g394 ?g395 ?g396) (Tw.mkDefK ?g397 ?g398 ?g399) (Tw.mkDefK ?g400 ?g401 ?g402) (Tw.mkDefK ?g403 ?g404 ?g405) (Tw.mkDefK ?g406 ?g407 ?g408) (Tw.mkDefK ?g409 ?g410 ?g411) (Tw.mkDefK ?g412 ?g413 ?g414)) (Tw.mkC ⟨?g56, ?g57, ?g58, ?g59⟩ ⟨?g60, ?g61, ?g62, ?g63⟩ ?g64 ?g65 ?g66 ⟨?g67, ?g68, ?g69⟩ ⟨?g70, ?g71, ?g72⟩ ⟨?g73, ?g74, ?g75⟩ ⟨?g76, ?g77, ?g78⟩ ⟨?g79, ?g80, ?g81⟩ ⟨?g82, ?g83, ?g84⟩ ⟨?g85, ?g86, ?g87, ?g88⟩ ⟨?g89, ?g90, ?g91, ?g92⟩ ?g93 ?g94 ⟨?g95, ?g96, ?g97⟩ ⟨?g98, ?g99, ?g100⟩ ⟨?g101, ?g102, ?g103⟩ ⟨?g104, ?g105, ?g106⟩ ⟨?g107, ?g108, ?g109⟩ ⟨?g110, ?g111, ?g112⟩ ⟨?g113, ?g114, ?g115⟩ ⟨?g116, ?g117, ?g118⟩ ⟨?g119, ?g120, ?g121⟩ ⟨?g122, ?g123, ?g124⟩ ⟨?g125, ?g126, ?g127⟩ ⟨?g128, ?g129, ?g130⟩ ⟨?g131, ?g132, ?g133⟩ ⟨?g134, ?g135, ?g136⟩ ⟨?g137, ?g138, ?g139⟩ ⟨?g140, ?g141, ?g142⟩ ?g143 ?g144 ?g145 ?g146 ?g147 ?g148 ?g149 ?g150 ?g151 ?g152 ?g153) (Tw.mkE (Tw.mkOexB ?g154 ?g155 ?g156 ?g157 ?g158) ?g159 ?g160 ?g161 ⟨?g162, ?g163, ?g164, ?g165⟩ ⟨?g166, ?g167, ?g168, ?g169, ?g170, ?g171, ?g172, ?g173⟩ ?g174 ?g175 ?g176 ?g177 ?g178 ?g179 ?g180 (Tw.mkOexB ?g181 ?g182 ?g183 ?g184 ?g185) ?g186 ?g187 ?g188 ⟨?g189, ?g190, ?g191, ?g192⟩ ⟨?g193, ?g194, ?g195, ?g196, ?g197, ?g198, ?g199, ?g200⟩ ?g201 ?g202 ?g203 ?g204 ?g205 ?g206 ?g207 (Tw.mkOexB ?g208 ?g209 ?g210 ?g211 ?g212) ?g213 ?g214 ?g215 ⟨?g216, ?g217, ?g218, ?g219⟩ ⟨?g220, ?g221, ?g222, ?g223, ?g224, ?g225, ?g226, ?g227⟩ ?g228 ?g229 ?g230 ?g231 ?g232 ?g233 ?g234 ?g235 ?g236 ?g237 ?g238 ?g239 ?g240 ?g241 ?g242 ?g243 ?g244 ?g245 ?g246 ?g247 ?g248)
    (case g1 => k_is)
    (case g2 => k_is)
    (case g3 => k_is)
    (case g4 => k_is)
    (case g5 => k_is)
    (case g6 => k_is)
    (case g7 => k_is)
    (case g8 => k_is)
    (case g9 => k_is)
    (case g10 => k_is)
    (case g11 => k_is)
    (case g12 => k_is)
    (case g13 => k_is)
    (case g14 => k_is)
    (case g15 => k_is)
    (case g16 => k_is)
    (case g17 => k_is)
    (case g18 => k_is)
    (case g19 => k_is)
    (case g20 => k_is)
    (case g21 => k_is)
    (case g22 => k_is)
    (case g23 => k_is)
    (case g24 => k_is)
    (case g25 => k_is)
    (case g26 => k_is)
    (case g27 => k_is)
    (case g28 => k_is)
    (case g29 => k_is)
    (case g30 => k_is)
    (case g31 => k_is)
    (case g32 => k_is)
    (case g33 => k_is)
    (case g34 => k_is)
    (case g35 => k_is)
    (case g36 => k_is)
    (case g37 => k_is)
    (case g38 => k_is)
    (case g39 => k_is)
    (case g40 => k_is)
    (case g41 => k_is)
    (case g42 => k_is)
    (case g43 => k_is)
    (case g44 => k_is)
    (case g45 => k_is)
    (case g46 => k_is)
    (case g47 => k_is)
    (case g48 => k_is)
    (case g49 => k_is)
    (case g50 => k_is)
    (case g51 => k_is)
    (case g52 => k_is)
    (case g53 => k_is)
    (case g54 => k_is)
    (case g55 => k_is)
    (case g56 => k_is)
    (case g57 => k_is)
    (case g58 => k_is)
    (case g59 => k_is)
    (case g60 => k_is)
    (case g61 => k_is)
    (case g62 => k_is)
    (case g63 => k_is)
    (case g64 => (unfold L2.NoAttr; k_is))
    (case g65 => (unfold L2.NoAttr; k_is))
    (case g66 => (unfold L2.NoAttr; k_is))
    (case g67 => k_is)
    (case g68 => k_is)
    (case g69 => k_is)
    (case g70 => k_is)
    (case g71 => k_is)
    (case g72 => k_is)
    (case g73 => k_is)
    (case g74 => k_is)
    (case g75 => k_is)
    (case g76 => k_is)
    (case g77 => k_is)
    (case g78 => k_is)
    (case g79 => k_is)
    (case g80 => k_is)
    (case g81 => k_is)
    (case g82 => k_is)
    (case g83 => k_is)
    (case g84 => k_is)
    (case g85 => k_is)
    (case g86 => k_is)
    (case g87 => k_is)
    (case g88 => k_is)
    (case g89 => k_is)
    (case g90 => k_is)
    (case g91 => k_is)
    (case g92 => k_is)
    (case g93 => (unfold L2.NoAttr; k_is))
    (case g94 => (unfold L2.NoAttr; k_is))
    (case g95 => k_is)
    (case g96 => k_is)
    (case g97 => k_is)
    (case g98 => k_is)
    (case g99 => k_is)
    (case g100 => k_is)
    (case g101 => k_is)
    (case g102 => k_is)
    (case g103 => k_is)
    (case g104 => k_is)
    (case g105 => k_is)
    (case g106 => k_is)
    (case g107 => k_is)
    (case g108 => k_is)
    (case g109 => k_is)
    (case g110 => k_is)
    (case g111 => k_is)
    (case g112 => k_is)
    (case g113 => k_is)
    (case g114 => k_is)
    (case g115 => k_is)
    (case g116 => k_is)
    (case g117 => k_is)
    (case g118 => k_is)
    (case g119 => k_is)
    (case g120 => k_is)
    (case g121 => k_is)
    (case g122 => k_is)
    (case g123 => k_is)
    (case g124 => k_is)
    (case g125 => k_is)
    (case g126 => k_is)
    (case g127 => k_is)
    (case g128 => k_is)
    (case g129 => k_is)
    (case g130 => k_is)
    (case g131 => k_is)
    (case g132 => k_is)
    (case g133 => k_is)
    (case g134 => k_is)
    (case g135 => k_is)
    (case g136 => k_is)
    (case g137 => k_is)
    (case g138 => k_is)
    (case g139 => k_is)
    (case g140 => k_is)
    (case g141 => k_is)
    (case g142 => k_is)
    (case g143 => k_is)
    (case g144 => k_is)
    (case g145 => k_is)
    (case g146 => k_is)
    (case g147 => k_is)
    (case g148 => k_is)
    (case g149 => k_is)
    (case g150 => k_is)
    (case g151 => k_is)
    (case g152 => k_is)
    (case g153 => k_is)
    (case g154 => k_is)
    (case g155 => k_is)
    (case g156 => k_is)
    (case g157 => k_is)
    (case g158 => k_is)
    (case g159 => k_is)
    (case g160 => k_is)
    (case g161 => k_is)
    (case g162 => k_is)
    (case g163 => k_is)
    (case g164 => k_is)
    (case g165 => k_is)
    (case g166 => k_is)
    (case g167 => k_is)
    (case g168 => k_is)
    (case g169 => k_is)
    (case g170 => k_is)
    (case g171 => k_is)
    (case g172 => k_is)
    (case g173 => k_is)
    (case g174 => k_is)
    (case g175 => k_is)
    (case g176 => k_is)
    (case g177 => k_is)
    (case g178 => k_is)
    (case g179 => k_is)
    (case g180 => k_is)
    (case g181 => k_is)
    (case g182 => k_is)
    (case g183 => k_is)
    (case g184 => k_is)
    (case g185 => k_is)
    (case g186 => k_is)
    (case g187 => k_is)
    (case g188 => k_is)
    (case g189 => k_is)
    (case g190 => k_is)
    (case g191 => k_is)
    (case g192 => k_is)
    (case g193 => k_is)
    (case g194 => k_is)
    (case g195 => k_is)
    (case g196 => k_is)
    (case g197 => k_is)
    (case g198 => k_is)
    (case g199 => k_is)
    (case g200 => k_is)
    (case g201 => k_is)
    (case g202 => k_is)
    (case g203 => k_is)
    (case g204 => k_is)
    (case g205 => k_is)
    (case g206 => k_is)
    (case g207 => k_is)
    (case g208 => k_is)
    (case g209 => k_is)
    (case g210 => k_is)
    (case g211 => k_is)
    (case g212 => k_is)
    (case g213 => k_is)
    (case g214 => k_is)
    (case g215 => k_is)
    (case g216 => k_is)
    (case g217 => k_is)
    (case g218 => k_is)
    (case g219 => k_is)
    (case g220 => k_is)
    (case g221 => k_is)
    (case g222 => k_is)
    (case g223 => k_is)
    (case g224 => k_is)
    (case g225 => k_is)
    (case g226 => k_is)
    (case g227 => k_is)
    (case g228 => k_is)
    (case g229 => k_is)
    (case g230 => k_is)
    (case g231 => k_is)
    (case g232 => k_is)
    (case g233 => k_is)
    (case g234 => k_is)
    (case g235 => k_is)
    (case g236 => k_is)
    (case g237 => k_is)
    (case g238 => k_is)
    (case g239 => k_is)
    (case g240 => k_is)
    (case g241 => k_is)
    (case g242 => k_is)
    (case g243 => k_is)
    (case g244 => k_is)
    (case g245 => k_is)
    (case g246 => k_is)
    (case g247 => k_is)
    (case g248 => k_is)
    (case g249 => k_is)
    (case g250 => k_is)
    (case g251 => k_is)
    (case g252 => k_is)
    (case g253 => k_is)
    (case g254 => k_is)
    (case g255 => k_is)
    (case g256 => k_is)
    (case g257 => k_is)
    (case g258 => k_is)
    (case g259 => k_is)
    (case g260 => k_is)
    (case g261 => k_is)
    (case g262 => k_is)
    (case g263 => k_is)
    (case g264 => k_is)
    (case g265 => k_is)
    (case g266 => k_is)
    (case g267 => k_is)
    (case g268 => k_is)
    (case g269 => k_is)
    (case g270 => k_is)
    (case g271 => k_is)
    (case g272 => k_is)
    (case g273 => k_is)
    (case g274 => k_is)
    (case g275 => k_is)
    (case g276 => k_is)
    (case g277 => k_is)
    (case g278 => k_is)
    (case g279 => k_is)
    (case g280 => k_is)
    (case g281 => k_is)
    (case g282 => k_is)
    (case g283 => k_is)
    (case g284 => k_is)
    (case g285 => k_is)
    (case g286 => k_is)
    (case g287 => k_is)
    (case g288 => k_is)
    (case g289 => k_is)
    (case g290 => k_is)
    (case g291 => k_is)
    (case g292 => k_is)
    (case g293 => k_is)
    (case g294 => k_is)
    (case g295 => k_is)
    (case g296 => k_is)
    (case g297 => k_is)
    (case g298 => k_is)
    (case g299 => k_is)
    (case g300 => k_is)
    (case g301 => k_is)
    (case g302 => k_is)
    (case g303 => k_is)
    (case g304 => k_is)
    (case g305 => k_is)
    (case g306 => k_is)
    (case g307 => k_is)
    (case g308 => k_is)
    (case g309 => k_is)
    (case g310 => k_is)
    (case g311 => k_is)
    (case g312 => k_is)
    (case g313 => k_is)
    (case g314 => k_is)
    (case g315 => k_is)
    (case g316 => k_is)
    (case g317 => k_is)
    (case g318 => k_is)
    (case g319 => k_is)
    (case g320 => k_is)
    (case g321 => k_is)
    (case g322 => k_is)
    (case g323 => k_is)
    (case g324 => k_is)
    (case g325 => k_is)
    (case g326 => k_is)
    (case g327 => k_is)
    (case g328 => k_is)
    (case g329 => k_is)
    (case g330 => k_is)
    (case g331 => k_is)
    (case g332 => k_is)
    (case g333 => k_is)
    (case g334 => k_is)
    (case g335 => k_is)
    (case g336 => k_is)
    (case g337 => k_is)
    (case g338 => k_is)
    (case g339 => k_is)
    (case g340 => k_is)
    (case g341 => k_is)
    (case g342 => k_is)
    (case g343 => k_is)
    (case g344 => k_is)
    (case g345 => k_is)
    (case g346 => k_is)
    (case g347 => k_is)
    (case g348 => k_is)
    (case g349 => k_is)
    (case g350 => k_is)
    (case g351 => k_is)
    (case g352 => k_is)
    (case g353 => k_is)
    (case g354 => k_is)
    (case g355 => k_is)
    (case g356 => k_is)
    (case g357 => k_is)
    (case g358 => k_is)
    (case g359 => k_is)
    (case g360 => k_is)
    (case g361 => k_is)
    (case g362 => k_is)
    (case g363 => k_is)
    (case g364 => k_is)
    (case g365 => k_is)
    (case g366 => k_is)
    (case g367 => k_is)
    (case g368 => k_is)
    (case g369 => k_is)
    (case g370 => k_is)
    (case g371 => k_is)
    (case g372 => k_is)
    (case g373 => k_is)
    (case g374 => k_is)
    (case g375 => k_is)
    (case g376 => k_is)
    (case g377 => k_is)
    (case g378 => k_is)
    (case g379 => k_is)
    (case g380 => k_is)
    (case g381 => k_is)
    (case g382 => k_is)
    (case g383 => k_is)
    (case g384 => k_is)
    (case g385 => k_is)
    (case g386 => k_is)
    (case g387 => k_is)
    (case g388 => k_is)
    (case g389 => k_is)
    (case g390 => k_is)
    (case g391 => k_is)
    (case g392 => k_is)
    (case g393 => k_is)
    (case g394 => k_is)
    (case g395 => k_is)
    (case g396 => k_is)
    (case g397 => k_is)
    (case g398 => k_is)
    (case g399 => k_is)
    (case g400 => k_is)
    (case g401 => k_is)
    (case g402 => k_is)
    (case g403 => k_is)
    (case g404 => k_is)
    (case g405 => k_is)
    (case g406 => k_is)
    (case g407 => k_is)
    (case g408 => k_is)
    (case g409 => k_is)
    (case g410 => k_is)
    (case g411 => k_is)
    (case g412 => k_is)
    (case g413 => k_is)
    (case g414 => k_is)
