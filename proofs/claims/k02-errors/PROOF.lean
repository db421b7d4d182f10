import PyProof.Rows.All
import Wide.All
import OpenK.AllK
import Wide.FinOn
import HandS.ForMost
import HandS.Exc
import HandS.WordsExc
import HandS.CallSlots
import HandS.ExcInit
import HandS.ExcIs
import HandS.ExcField
import HandS.Deep
import HandS.TupAny
import HandS.IsInst
import HandS.Style
import KE.KEqNest
import HandS.More
import KE.KExcIs
import HandS.Defaults
import HandS.Head0
import HandS.Head1
import HandS.Head2
import HandS.HeadEnd
import HandS.HeadHook1
import HandS.HeadHook2
import HandS.HeadWalk
import PySem.Challenge.RW_surerests_k02_errors
set_option Elab.async false
set_option linter.all false
set_option maxRecDepth 100000
set_option autoImplicit false
set_option maxHeartbeats 4000000
namespace PySem
namespace HandSPX
open PySem PySem.Spec PyProof.Rows PySem.Calls PySem.W
section
variable {M : Model} {A : Around} {E : Value → Shared → Prop} {h : Heap} {g : Array GenState} {d : Drawn} {t : Nat} {os : OsState}
variable {nm q : Str} {C N : Addr} {bs bm bmB : List Value} {hdct : Bool} {sn : List Str} {sub : List Value} {ab : Bool} {col : Option Bool} {dd : Option Addr} {k0 k1 k2 k3 k5 : Option Value} {B newId initId : String}

theorem check_new_ownK (F : ExcBaseFacts B newId initId bmB) (hT : ∀ X : String, bm.contains (.type X) = bmB.contains (.type X)) {rest : List Value} {kw : List (Str × Value)} {Q : Unit → Shared → Prop}
    (hC : h.get? C = some (excClassObj nm q C N bs bm hdct sn sub ab col dd k0 k1 k2 k3 k5 newId)) (hq : Q () ⟨h, g, d, t, os⟩) : wpAny M A (checkBuiltinCall newId ⟨.ref C :: rest, kw⟩) Q E ⟨h, g, d, t, os⟩ := by
  have hcont : (Value.ref C :: bm).contains (.type B) = true := by rw [List.contains_cons, hT, F.hasB, Bool.or_true]
  have hstar := F.noStar
  simp only [checkBuiltinCall, F.newKind, F.newSplit, F.newRow]
  repeat (first | refine wpAny_loadPart_at hC ?_ | (refine wpAny_isSubtype_exc hC ?_; rw [hcont]) | refine wpAny_staticBase_exc hC ?_ | refine wpAny_madeBy_exc hC ?_ | simp only [bne_self_eq_false, Bool.false_eq_true, if_false] | wp_step)
  exact hq
end
section
variable {prog : Program} {w : World} {A : Around} {E : Value → Shared → Prop} {R : Result → Shared → Prop} {h : Heap} {g : Array GenState} {d : Drawn} {t : Nat} {os : OsState}
variable {nm q : Str} {C N : Addr} {bs bm bmB : List Value} {hdct : Bool} {sn : List Str} {sub : List Value} {ab : Bool} {col : Option Bool} {dd : Option Addr} {k0 k1 k2 k3 k5 : Option Value} {B newId initId : String}
theorem new_ownK (F : ExcBaseFacts B newId initId bmB) (hT : ∀ X : String, bm.contains (.type X) = bmB.contains (.type X)) {rest : List Value} {kw : List (Str × Value)}
    (hC : h.get? C = some (excClassObj nm q C N bs bm hdct sn sub ab col dd k0 k1 k2 k3 k5 newId))
    (hq : R (.ok (.ret (.ref (h.objs.size + 1)))) ⟨(h.push { cls := .type "tuple", data := .seq rest.toArray }).push
      { cls := .ref C, data := .fields #[.ref h.objs.size, .none, .none, .none, .bool false, .none] }, g, d, t, os⟩) (hrest : rest.length ≤ sizeLine) :
    codeAny (model prog w) A (.builtin newId ⟨.ref C :: rest, kw⟩) R ⟨h, g, d, t, os⟩ := by
  have hends := F.ends
  have hcB : (Value.ref C :: bm).contains (.type B) = true := by rw [List.contains_cons, hT, F.hasB, Bool.or_true]
  have hcA : (Value.ref C :: bm).contains (.type "AttributeError") = false := by rw [List.contains_cons, hT, F.noAttr]; rfl
  have hcN : (Value.ref C :: bm).contains (.type "NameError") = false := by rw [List.contains_cons, hT, F.noName]; rfl
  refine codeAny_builtinAt F.entry ?_
  unfold Builtin.«BaseException.__new__»
  refine wpAt_bind ?_
  show wpAt _ _ _ (stack >>= _) _ _ _
  refine wpAt_bind (wpAt_stack fun p below => wpAt_of_wpAny ?_)
  wp_walk
  refine wpAt_of_wpAny ?_
  rw [F.owner]
  repeat (first | with_reducible refine wpAny_madeHere_exc F.canon hC ?_ | with_reducible refine wpAny_loadPart_at hC ?_ | (with_reducible refine wpAny_isSubtype_exc hC ?_; first | rw [hcB] | rw [hcA] | rw [hcN]) | wp_step)
  show R _ _
  rw [Heap.size_push]
  exact hq
theorem type_call_ownK (F : ExcBaseFacts B newId initId bmB) (hT : ∀ X : String, bm.contains (.type X) = bmB.contains (.type X)) {rest : List Value} {kw : List (Str × Value)} {fI : Addr} {Q : Fin → Shared → Prop}
    (hC : h.get? C = some (excClassObj nm q C N bs bm hdct sn sub ab col dd k0 k1 k2 k3 k5 newId))
    (hi : W.Looks (model prog w) h (typeLookup (.ref C) "__init__") (some (.ref fI))) (hb : ∀ self, W.Looks (model prog w) h (bindSpecial (.ref fI) self) (.ref fI, [self])) (hrest : rest.length ≤ sizeLine)
    (hq : codeAny (model prog w) A (.call (.ref fI) ⟨.ref (h.objs.size + 1) :: rest, kw⟩)
      (fun r s' => match r with | .ok (.ret v) => v = .none ∧ Q (.done (.ret (.ref (h.objs.size + 1)))) s' | .ok _ => False | .error e => E e s')
      ⟨(h.push (W.kdv_tup rest)).push (excO C h.objs.size), g, d, t, os⟩) :
    wpAny (model prog w) A (Builtin.«type.__call__» ⟨.ref C :: rest, kw⟩) Q E ⟨h, g, d, t, os⟩ := by
  repeat (first | with_reducible refine wpAny_loadPart_at hC ?_ | with_reducible refine wpAny_madeBy_exc hC ?_ | wp_step)
  refine codeAny_call_builtin_code (Code.quiet_builtin _ F.quiet) (check_new_ownK F hT hC ?_)
  refine new_ownK F hT hC ?_ hrest
  show wpAny _ _ _ _ _ _
  have k : ∀ b o, h.get? b = some o → ((h.push (W.kdv_tup rest)).push (excO C h.objs.size)).get? b = some o := fun b o e => Heap.get?_push_of_some _ (Heap.get?_push_of_some _ e)
  have hC₁ := k _ _ hC
  have hget : ((h.push (W.kdv_tup rest)).push (excO C h.objs.size)).get? (h.objs.size + 1) = some (excO C h.objs.size) := by heap_get
  have hcC : (Value.ref C :: bm).contains (.ref C) = true := by simp
  have i1 := hi.keeps k
  have b1 := (hb (.ref (h.objs.size + 1))).keeps k
  unfold isInstance
  repeat (first | with_reducible refine wpAny_loadPart_at hget ?_ | (with_reducible refine wpAny_isSubtype_exc hC₁ ?_; rw [hcC]) | wp_step)
  show wpAny _ _ (typeLookup (.ref C) _) _ _ _
  refine i1.at ?_
  refine wpAny_holding (wpAny_bind (b1.at ?_))
  refine wpAny_bind (wpAny_call (codeAny_mono hq fun r s' z => ?_))
  rcases r with e | (v | _ | _ | _) <;> first | exact z | exact z.elim | skip
  obtain ⟨rfl, z⟩ := z
  first
    | exact wpAny_pure (wpAny_pure z)
    | (wp_walk; exact z)
theorem call_ownK (F : ExcBaseFacts B newId initId bmB) (hT : ∀ X : String, bm.contains (.type X) = bmB.contains (.type X)) {rest : List Value} {kw : List (Str × Value)} {fI : Addr}
    (hC : h.get? C = some (excClassObj nm q C N bs bm hdct sn sub ab col dd k0 k1 k2 k3 k5 newId))
    (hi : W.Looks (model prog w) h (typeLookup (.ref C) "__init__") (some (.ref fI))) (hb : ∀ self, W.Looks (model prog w) h (bindSpecial (.ref fI) self) (.ref fI, [self])) (hrest : rest.length ≤ sizeLine)
    (hq : codeAny (model prog w) (A.under (.builtin "type.__call__" ⟨.ref C :: rest, kw⟩)) (.call (.ref fI) ⟨.ref (h.objs.size + 1) :: rest, kw⟩) (W.InitBack (h.objs.size + 1) R)
      ⟨(h.push (W.kdv_tup rest)).push (excO C h.objs.size), g, d, t, os⟩) :
    codeAny (model prog w) A (.call (.ref C) ⟨rest, kw⟩) R ⟨h, g, d, t, os⟩ := by
  have f1 := tc_lookup
  have f2 := tc_bind (.ref C)
  have hTy : (⟨h, g, d, t, os⟩ : Shared).TypeIs (.ref C) "type" := ⟨_, hC, rfl⟩
  refine codeAny_of_tree ?_
  show wpAny _ _ (callAny (.ref C) _) _ _ _
  repeat (any_goals (first | assumption | with_reducible refine wpAny_loadPart_at hC ?_ | wp_step))
  refine ⟨rfl, ?_⟩
  refine codeAny_call_builtin_at (Code.quiet_builtin _ (by decide +kernel)) entry_typeCall (wpAny_check_type_call_sub hC (type_call_ownK F hT hC hi hb hrest ?_))
  refine codeAny_mono hq fun r s' z => ?_
  rcases r with e | (v | _ | _ | _) <;> exact z
end
end HandSPX
end PySem

/-! Errors of own classes as values. -/
namespace SR
open PySem PySem.Spec PyProof.Rows
open L2 hiding St
abbrev Sg := List (Option V)

/-! ### R.__init__(self, ..), R an own class that inherits ValueError's -/
structure RInit (K : PySem.W.Frag) (R : Addr) : Prop where
  sp : PySem.W.specialIn K (.ref R) "__getattribute__" = some (some (.builtin "type.__getattribute__"))
  rd : ∃ mc, PySem.W.readsIn K R mc = true ∧ PySem.W.findCls K (.ref R) mc "__init__" = some (.val (.builtin "ValueError.__init__"))
section
variable {X : Cx} {e : Expr} {es : List Expr} {ta : TA} {x f : Str} {p p1 p2 pos : Pos}
theorem pe_rinit {R : Addr} {pl : Sem Bool} (T : RInit X.K R) (hg : Gl X x) (hm : X.mg x = some (.ref R)) (ha : PA X (e :: es) ta)
    (hc : eval (.Call (.Attribute (.Name x p1) "__init__" p2) (e :: es) [] pos) X.env = (do
      let ov ← eval (.Name x p1) X.env
      standAt p2.atName
      let (f, first) ← holding [ov] (getMethod ov "__init__" pl)
      callWith pos f first (backTo pos (starEach (e :: es) X.env)) (backToKw pos (keywordEach [] X.env))) := by rfl)
    (hdb : (x == ("__debug__" : Str)) = false := by decide)
    (he : starEach (e :: es) X.env = (false, eval e X.env) :: starEach es X.env := by rfl) (hpl : (backTo pos (starEach es X.env)).any (·.1) = false := by rfl) :
    PE X (.Call (.Attribute (.Name x p1) "__init__" p2) (e :: es) [] pos) (tVeI X.K ta) := by
  refine ⟨fun pins s σ H Q I h => ?_⟩
  refine PySem.W.methodCall_KW (ld_glob I hg hm ?_ hdb) hc
  obtain ⟨mc, h1, h2⟩ := T.rd
  refine PySem.W.method_cls I.kIn T.sp (PySem.W.cls_value I.kIn h1 h2 (by decide +kernel) ?_)
  show wpAny _ _ (callWith pos (Value.builtin "ValueError.__init__") [] (backTo pos (starEach (e :: es) X.env)) []) _ _ _
  refine PyProof.Rows.callWith_method1 (thn (ha.run pos pins _ σ H _ (I.tok _) h) fun us s1 ⟨vs, H1, I1, r1, a, C, ws, ev, hl, T, ea, q⟩ => ?_) he hpl
  subst ev
  cases r1 with
  | @cons _ u0 _ ur ra rw' =>
    obtain rfl : u0 = Value.ref a := ra
    have hlen : ur.length ≤ sizeLine := by
      rw [← Paired.length rw', sizeLine_eq]
      omega
    exact oinit_ok T I1 ea hlen fun s' J => ⟨.non, H1, J, rfl, q⟩
end

/-! ### C(e, ..) as a value -/
def tMkV (C : Addr) (sp : Sp) (ta : TA) : TE := fun σ H Q => ta σ H fun vs H1 => vs.length ≤ 1000 ∧ ∀ a, H1 a = none → sp (.ref a :: vs) (upd H1 a (exo a C none)) (fun v H2 => v = .non ∧ Q (.ref a) H2) (fun _ _ _ => False)
section
variable {X : Cx} {e : Expr} {es : List Expr} {ta : TA} {p pos : Pos}
theorem mkv_inv {pins : List (Addr × Obj)} {σ : Sg} {H1 H2 : Hp} {hp hp2 h2 : Heap} {g1 g2 : Array GenState} {d1 d2 : Drawn} {t1 t2 : Nat} {os1 os2 : OsState} {a : Addr} {o : HO} (I1 : Inv X pins σ H1 ⟨hp, g1, d1, t1, os1⟩)
    (ha : hp.objs.size ≤ a) (k : ∀ b o, hp.get? b = some o → hp2.get? b = some o) (un : Un (frs X.stack) [] (upd H1 a o) H2 hp2 h2) (hok : HOk X.prog X.w H2 h2) (ho : os2 = os1) (hb : AllBare g2) :
    Inv X pins σ H2 ⟨h2, g2, d2, t2, os2⟩ := by
  have hn : H1 a = none := I1.hok.fresh ha
  have nha : ∀ {b : Addr} {o : Obj}, hp.get? b = some o → b ≠ a := fun {b o} z => Nat.ne_of_lt (Nat.lt_of_lt_of_le (Heap.lt_size z) ha)
  have up : ∀ {b : Addr}, b ≠ a → H1 b = none → upd H1 a o b = none := fun {b} hb n => by rw [upd_ne hb]; exact n
  have U : Un (frs X.stack) [] H1 H2 hp h2 := {
    keep := fun b o z n hf hx => un.keep b o (k b o z) (up (nha z) n) hf hx
    slot := fun b o z n hf hx => un.slot b o (k b o z) (up (nha z) n) hf hx
    free := fun b o z n hx => un.free b o (k b o z) (up (nha z) n) hx
    there := fun b o z hx => un.there b o (k b o z) hx
    tups := fun b xs z => un.tups b xs (by rw [upd_ne (ne_of_none z hn)]; exact z)
    frzs := fun b o v z => un.frzs b o v (by rw [upd_ne (ne_of_none z hn)]; exact z)
    tbls := fun b ps z => un.tbls b ps (by rw [upd_ne (ne_of_none z hn)]; exact z) }
  exact I1.call' (ch := []) ho U hok hb (fun b z => absurd z (by simp))
/-- the call itself -/
theorem mkv_run {CX : CXT} {C fI : Addr} {k : Nat} {fd : FuncData} {ps : List Str} {sp : Sp} {pins : List (Addr × Obj)} {σ : Sg} {H1 : Hp} {s1 : Shared} {us : List Value} {vs : List V} {Q : VK} (T : OexC X.K C) (iC : PySem.W.findIn X.K (.ref C) "__init__" = some (some (.ref fI))) (tI : PySem.W.typeIn X.K (.ref fI) = some (.type "function"))
    (F1 : FnOk X.prog X.w X.K X.mg X.base CX k fI fd ps sp) (hr : Room (k + 1) X.A) (hb : Binds X.K fd ps []) (hx : Passes CX X (fun _ _ _ => False)) (I1 : Inv X pins σ H1 s1) (r1 : Vals vs us) (hz : vs.length ≤ 1000)
    (q1 : ∀ a, H1 a = none → sp (.ref a :: vs) (upd H1 a (exo a C none)) (fun v H2 => v = .non ∧ Q (.ref a) H2) (fun _ _ _ => False)) : wpAny (model X.prog X.w) X.A (call (.ref C) us) (EP X pins σ Q) X.xe s1 := by
  obtain ⟨nm, q, N, bs, bm, sn, sub, ab, col, dd, k0, k1, k2, k3, k5, hC, hbm⟩ := T.cls
  obtain ⟨hp, g, dr, tk, os⟩ := s1
  have hsz : hp.objs.size ≤ hp.objs.size + 1 := Nat.le_succ _
  have hn : H1 (hp.objs.size + 1) = none := I1.hok.fresh hsz
  have hq := q1 (hp.objs.size + 1) hn
  have kk : ∀ b o, hp.get? b = some o → ((hp.push (PySem.W.kdv_tup us)).push (PySem.HandSPX.excO C hp.objs.size)).get? b = some o := fun b o e => Heap.get?_push_of_some _ (Heap.get?_push_of_some _ e)
  have hget : ((hp.push (PySem.W.kdv_tup us)).push (PySem.HandSPX.excO C hp.objs.size)).get? (hp.objs.size + 1) = some (PySem.HandSPX.excO C hp.objs.size) := by heap_get
  have I2 : Inv X pins σ (upd H1 (hp.objs.size + 1) (exo (hp.objs.size + 1) C none)) ⟨(hp.push (PySem.W.kdv_tup us)).push (PySem.HandSPX.excO C hp.objs.size), g, dr, tk, os⟩ :=
    I1.laid (t' := tk) (a := hp.objs.size + 1) (o := exo (hp.objs.size + 1) C none) (h' := (hp.push (PySem.W.kdv_tup us)).push (PySem.HandSPX.excO C hp.objs.size)) kk hsz (exo_ok hget)
  have r2 : Vals (V.ref (hp.objs.size + 1) :: vs) (Value.ref (hp.objs.size + 1) :: us) := .cons rfl r1
  have hl : (Value.ref (hp.objs.size + 1) :: us ++ []).length = ps.length := by
    have e := r2.length
    rw [F1.len _ _ _ _ hq] at e
    rw [List.append_nil]
    exact e.symm
  have hus : us.length ≤ sizeLine := by
    rw [← Paired.length r1, sizeLine_eq]
    omega
  have hbb := hb _ (Value.ref (hp.objs.size + 1) :: us) I2.kIn hl
  rw [List.append_nil] at hbb
  refine wpAny_call (PySem.HandSPX.call_own F.excBase_ValueError (fun Y => PySem.HandSPX.refsVE_contains Y bm hbm) (I1.kIn _ _ hC) (PySem.W.looks_findIn I1.kIn iC) (fun self => PySem.W.bind_fn I1.kIn self tI) hus
    (codeAny_mono (F1.run _ X.stack _ _ ⟨Value.ref (hp.objs.size + 1) :: us, []⟩ (Value.ref (hp.objs.size + 1) :: us) _ _ (fun _ _ _ => False) (hr.make C us []) (I2.env0.make C us []) hbb r2 hq) fun r s' hq' => ?_))
  cases r with
  | error er => exact hx pins σ _ _ er s' I2 hq'
  | ok fl =>
    cases fl with
    | ret u =>
      obtain ⟨v, H2, os2, bare2, un2, hok2, rv, ev, q2⟩ := hq'
      subst ev
      obtain ⟨h2, g2, d2, t2, os'⟩ := s'
      exact ⟨rv, .ref (hp.objs.size + 1), H2, mkv_inv I1 hsz kk un2 hok2 os2 bare2, rfl, q2⟩
    | next => exact False.elim hq'
    | brk => exact False.elim hq'
    | cont => exact False.elim hq'
/-- the same by keywords -/
theorem mkv_runK {CX : CXT} {C fI : Addr} {k : Nat} {fd : FuncData} {ps : List Str} {sp : Sp} {pins : List (Addr × Obj)} {σ : Sg} {H1 : Hp} {s1 : Shared} {kw : List (Str × Value)} {us : List Value} {vs : List V} {Q : VK} (T : OexC X.K C) (iC : PySem.W.findIn X.K (.ref C) "__init__" = some (some (.ref fI))) (tI : PySem.W.typeIn X.K (.ref fI) = some (.type "function"))
    (F1 : FnOk X.prog X.w X.K X.mg X.base CX k fI fd ps sp) (hr : Room (k + 1) X.A) (hb : ∀ (s : Shared) (a : Addr), BindsTo s fd ⟨[.ref a], kw⟩ (ps.zip (.ref a :: us))) (hx : Passes CX X (fun _ _ _ => False)) (I1 : Inv X pins σ H1 s1) (r1 : Vals vs us)
    (q1 : ∀ a, H1 a = none → sp (.ref a :: vs) (upd H1 a (exo a C none)) (fun v H2 => v = .non ∧ Q (.ref a) H2) (fun _ _ _ => False)) : wpAny (model X.prog X.w) X.A (call (.ref C) [] kw) (EP X pins σ Q) X.xe s1 := by
  obtain ⟨nm, q, N, bs, bm, sn, sub, ab, col, dd, k0, k1, k2, k3, k5, hC, hbm⟩ := T.cls
  obtain ⟨hp, g, dr, tk, os⟩ := s1
  have hsz : hp.objs.size ≤ hp.objs.size + 1 := Nat.le_succ _
  have hn : H1 (hp.objs.size + 1) = none := I1.hok.fresh hsz
  have hq := q1 (hp.objs.size + 1) hn
  have kk : ∀ b o, hp.get? b = some o → ((hp.push (PySem.W.kdv_tup [])).push (PySem.HandSPX.excO C hp.objs.size)).get? b = some o := fun b o e => Heap.get?_push_of_some _ (Heap.get?_push_of_some _ e)
  have hget : ((hp.push (PySem.W.kdv_tup [])).push (PySem.HandSPX.excO C hp.objs.size)).get? (hp.objs.size + 1) = some (PySem.HandSPX.excO C hp.objs.size) := by heap_get
  have I2 : Inv X pins σ (upd H1 (hp.objs.size + 1) (exo (hp.objs.size + 1) C none)) ⟨(hp.push (PySem.W.kdv_tup [])).push (PySem.HandSPX.excO C hp.objs.size), g, dr, tk, os⟩ :=
    I1.laid (t' := tk) (a := hp.objs.size + 1) (o := exo (hp.objs.size + 1) C none) (h' := (hp.push (PySem.W.kdv_tup [])).push (PySem.HandSPX.excO C hp.objs.size)) kk hsz (exo_ok hget)
  have r2 : Vals (V.ref (hp.objs.size + 1) :: vs) (Value.ref (hp.objs.size + 1) :: us) := .cons rfl r1
  refine wpAny_call (PySem.HandSPX.call_ownK F.excBase_ValueError (fun Y => PySem.HandSPX.refsVE_contains Y bm hbm) (I1.kIn _ _ hC) (PySem.W.looks_findIn I1.kIn iC) (fun self => PySem.W.bind_fn I1.kIn self tI) (Nat.zero_le _)
    (codeAny_mono (F1.run _ X.stack _ _ ⟨[Value.ref (hp.objs.size + 1)], kw⟩ (Value.ref (hp.objs.size + 1) :: us) _ _ (fun _ _ _ => False) (hr.make C [] kw) (I2.env0.make C [] kw) (hb _ _) r2 hq) fun r s' hq' => ?_))
  cases r with
  | error er => exact hx pins σ _ _ er s' I2 hq'
  | ok fl =>
    cases fl with
    | ret u =>
      obtain ⟨v, H2, os2, bare2, un2, hok2, rv, ev, q2⟩ := hq'
      subst ev
      obtain ⟨h2, g2, d2, t2, os'⟩ := s'
      exact ⟨rv, .ref (hp.objs.size + 1), H2, mkv_inv I1 hsz kk un2 hok2 os2 bare2, rfl, q2⟩
    | next => exact False.elim hq'
    | brk => exact False.elim hq'
    | cont => exact False.elim hq'
theorem pe_mkv {CX : CXT} {x : Str} {C fI : Addr} {k : Nat} {fd : FuncData} {ps : List Str} {sp : Sp} (T : OexC X.K C) (iC : PySem.W.findIn X.K (.ref C) "__init__" = some (some (.ref fI))) (tI : PySem.W.typeIn X.K (.ref fI) = some (.type "function"))
    (F1 : FnOk X.prog X.w X.K X.mg X.base CX k fI fd ps sp) (hr : Room (k + 1) X.A) (hb : Binds X.K fd ps []) (hx : Passes CX X (fun _ _ _ => False)) (hg : Gl X x) (hm : X.mg x = some (.ref C)) (ha : PA X (e :: es) ta)
    (hdb : (x == ("__debug__" : Str)) = false := by decide) (he : starEach (e :: es) X.env = (false, eval e X.env) :: starEach es X.env := by rfl) (hpl : (backTo pos (starEach es X.env)).any (·.1) = false := by rfl) :
    PE X (.Call (.Name x p) (e :: es) [] pos) (tMkV C sp ta) := by
  refine ⟨fun pins s σ H Q I h => ?_⟩
  refine wpAny_Call_Name_kw (ld_glob I hg hm ?_ hdb)
  refine PySem.W.callWith_K (h₀ := X.base) I.ok.mod.kin T.kC (thn (ha.run pos pins s σ H _ I h) fun us s1 ⟨vs, H1, I1, r1, hz, q1⟩ => ⟨I1.kIn, ?_⟩) he hpl
  exact mkv_run T iC tI F1 hr hb hx I1 r1 hz q1
theorem pe_mkv0 {CX : CXT} {x : Str} {C fI : Addr} {k : Nat} {fd : FuncData} {ps : List Str} {sp : Sp} (T : OexC X.K C) (iC : PySem.W.findIn X.K (.ref C) "__init__" = some (some (.ref fI))) (tI : PySem.W.typeIn X.K (.ref fI) = some (.type "function"))
    (F1 : FnOk X.prog X.w X.K X.mg X.base CX k fI fd ps sp) (hr : Room (k + 1) X.A) (hb : Binds X.K fd ps []) (hx : Passes CX X (fun _ _ _ => False)) (hg : Gl X x) (hm : X.mg x = some (.ref C))
    (hdb : (x == ("__debug__" : Str)) = false := by decide) :
    PE X (.Call (.Name x p) [] [] pos) (tMkV C sp tNil) := by
  refine ⟨fun pins s σ H Q I h => ?_⟩
  refine wpAny_Call_Name_kw (ld_glob I hg hm ?_ hdb)
  obtain ⟨hz, q1⟩ := h
  refine PySem.W.callWith_KW0 (K := X.K) (h₀ := X.base) I.ok.mod.kin T.kC rfl ?_
  refine wpAny_pure ⟨I.kIn, ?_⟩
  exact mkv_run T iC tI F1 hr hb hx I .nil hz q1
end
end SR

set_option Elab.async false
set_option linter.all false
set_option maxRecDepth 100000
set_option autoImplicit false
/-! The abstract machine: data, results, worlds, relations. -/
namespace SR
open PySem PySem.Spec PyProof.Rows
open L2 hiding St

inductive D where
  | non | bl (b : Bool) | int (i : Int) | str (x : Str)
  | tup (xs : List D) | lst (xs : List D)
  | dct (kvs : List (Key × D)) | dtt (kvs : List (List Key × D)) | ins (C : Str) (fs : List (Str × D)) | err (C : Str) (fs : List (Str × D))
  | obj (i : Nat) | st | cls (x : Str)
/-- a mutable object of the machine -/
inductive AO where
  | lst (ds : List D) | dct (kvs : List (Key × D)) | dead
structure S where
  objs : List AO
  cnt : Nat
structure XV where
  C : Str
  fs : List (Str × D)
inductive Res (α : Type) where
  | ok (a : α) (s : S)
  | exc (x : XV) (s : S)
  | ch (n : Nat) (k : Nat → Res α)
  | fail
namespace Res
def bind {α β : Type} : Res α → (α → S → Res β) → Res β
  | .ok a s, f => f a s
  | .exc x s, _ => .exc x s
  | .ch n k, f => .ch n fun r => (k r).bind f
  | .fail, _ => .fail
@[simp] theorem ok_bind {α β : Type} (a : α) (s : S) (f : α → S → Res β) : (Res.ok a s).bind f = f a s := rfl
@[simp] theorem exc_bind {α β : Type} (x : XV) (s : S) (f : α → S → Res β) : (Res.exc x s).bind f = .exc x s := rfl
@[simp] theorem ch_bind {α β : Type} (n : Nat) (k : Nat → Res α) (f : α → S → Res β) : (Res.ch n k).bind f = .ch n fun r => (k r).bind f := rfl
@[simp] theorem fail_bind {α β : Type} (f : α → S → Res β) : (Res.fail : Res α).bind f = .fail := rfl
theorem bind_assoc {α β γ : Type} (m : Res α) (f : α → S → Res β) (g : β → S → Res γ) : (m.bind f).bind g = m.bind fun a s => (f a s).bind g := by
  induction m with
  | ok a s => rfl
  | exc x s => rfl
  | fail => rfl
  | ch n k ih => simp only [ch_bind]; congr; funext r; exact ih r
end Res
/-- what an expression gives: a value, or the borrowed content of an owned slot -/
inductive EV where
  | v (d : D) | b (d : D)
def EV.get : EV → D
  | .v d => d
  | .b d => d
@[simp] theorem EV.get_v (d : D) : (EV.v d).get = d := rfl
@[simp] theorem EV.get_b (d : D) : (EV.b d).get = d := rfl
inductive Sl where
  | v (d : D) | own (d : D)
abbrev Ev := List (Option Sl)

/-! ### worlds -/
/-- ids by address; what may be changed; what is not frozen -/
structure Wr where
  rho : List Addr
  mu : Addr → Prop
  ph : Addr → Prop
/-- the error classes by name, all classes as values -/
structure Clz where
  ex : Str → Option Addr
  cv : Str → Option V
/-- fixed for the whole law: the written part, the draws' state, the classes -/
structure Gam where
  K : PySem.W.Frag
  dr : Addr
  cls : Clz

structure Ext (w : Wr) (H : Hp) (w' : Wr) (H' : Hp) : Prop where
  ids : ∃ more, w'.rho = w.rho ++ more
  ph1 : ∀ a, w.ph a → w'.ph a
  ph2 : ∀ a, w'.ph a → w.ph a ∨ H a = none
  mu1 : ∀ a, w.mu a → w'.mu a
  mu2 : ∀ a, w'.mu a → w.mu a ∨ H a = none
  keep : ∀ a o, H a = some o → ¬ w.mu a → H' a = some o
  dom : ∀ a, H' a = none → H a = none
theorem Ext.refl (w : Wr) (H : Hp) : Ext w H w H := ⟨⟨[], by simp⟩, fun _ h => h, fun _ h => .inl h, fun _ h => h, fun _ h => .inl h, fun _ _ h _ => h, fun _ h => h⟩
theorem Ext.trans {w w1 w2 : Wr} {H H1 H2 : Hp} (a : Ext w H w1 H1) (b : Ext w1 H1 w2 H2) : Ext w H w2 H2 where
  ids := by
    obtain ⟨m, e⟩ := a.ids
    obtain ⟨n, f⟩ := b.ids
    exact ⟨m ++ n, by rw [f, e, List.append_assoc]⟩
  ph1 := fun x h => b.ph1 x (a.ph1 x h)
  ph2 := fun x h => (b.ph2 x h).elim (a.ph2 x) fun z => .inr (a.dom x z)
  mu1 := fun x h => b.mu1 x (a.mu1 x h)
  mu2 := fun x h => (b.mu2 x h).elim (a.mu2 x) fun z => .inr (a.dom x z)
  keep := fun x o h n => b.keep x o (a.keep x o h n) fun z => (a.mu2 x z).elim n fun q => by rw [h] at q; cases q
  dom := fun x h => a.dom x (b.dom x h)

def InK (K : PySem.W.Frag) (a : Addr) (xs : List V) : Prop :=
  ∃ (o : Obj) (its : Array Value) (n : Nat), K.lookup a = some o ∧ o.cls = .type "tuple" ∧ o.data = .seq its n ∧ its.size ≤ sizeLine ∧ Vals xs its.toList

mutual
inductive Rp (G : Gam) (w : Wr) (H : Hp) : D → V → Prop where
  | non : Rp G w H .non .non
  | bl (b : Bool) : Rp G w H (.bl b) (.bl b)
  | int (i : Int) : Rp G w H (.int i) (.int i)
  | str (x : Str) : Rp G w H (.str x) (.str x)
  | tup {a : Addr} {vs : List V} {ds : List D} (h : H a = some (.tup vs)) (n : ¬ w.ph a) (r : RpL G w H ds vs) : Rp G w H (.tup ds) (.ref a)
  | tupK {a : Addr} {vs : List V} {ds : List D} (h : InK G.K a vs) (r : RpL G w H ds vs) : Rp G w H (.tup ds) (.ref a)
  | lst {a : Addr} {vs : List V} {ds : List D} (h : H a = some (.lst vs)) (n : ¬ w.ph a) (r : RpL G w H ds vs) : Rp G w H (.lst ds) (.ref a)
  | dct {a : Addr} {vs : List (Key × V)} {ds : List (Key × D)} (h : H a = some (.dK vs)) (n : ¬ w.ph a) (e : ds.map (·.1) = vs.map (·.1)) (r : RpL G w H (ds.map (·.2)) (vs.map (·.2))) : Rp G w H (.dct ds) (.ref a)
  | dtt {a : Addr} {vs : List (List Key × V)} {ds : List (List Key × D)} (h : H a = some (.dT vs)) (n : ¬ w.ph a) (e : ds.map (·.1) = vs.map (·.1)) (r : RpL G w H (ds.map (·.2)) (vs.map (·.2))) : Rp G w H (.dtt ds) (.ref a)
  | ins {c : Str} {C a dx : Addr} {vs : List (Str × V)} {ds : List (Str × D)} (hc : G.cls.ex c = some C) (h : H a = some (.ins C dx vs)) (n : ¬ w.ph a) (e : ds.map (·.1) = vs.map (·.1)) (r : RpL G w H (ds.map (·.2)) (vs.map (·.2))) : Rp G w H (.ins c ds) (.ref a)
  | err {c : Str} {C a d : Addr} {vs : List (Str × V)} {ds : List (Str × D)} (hc : G.cls.ex c = some C) (h : H a = some (exo a C (some d))) (n : ¬ w.ph a) (hd : H d = some (exd d vs)) (nd : ¬ w.ph d) (e : ds.map (·.1) = vs.map (·.1)) (r : RpL G w H (ds.map (·.2)) (vs.map (·.2))) : Rp G w H (.err c ds) (.ref a)
  | err0 {c : Str} {C a : Addr} (hc : G.cls.ex c = some C) (h : H a = some (exo a C none)) (n : ¬ w.ph a) : Rp G w H (.err c []) (.ref a)
  | obj {i : Nat} {a : Addr} (h : w.rho[i]? = some a) : Rp G w H (.obj i) (.ref a)
  | st : Rp G w H .st (.ref G.dr)
  | cls {x : Str} {v : V} (h : G.cls.cv x = some v) : Rp G w H (.cls x) v
inductive RpL (G : Gam) (w : Wr) (H : Hp) : List D → List V → Prop where
  | nil : RpL G w H [] []
  | cons {d : D} {v : V} {ds : List D} {vs : List V} (h : Rp G w H d v) (t : RpL G w H ds vs) : RpL G w H (d :: ds) (v :: vs)
end

/-- the relation passes on -/
structure Pass (w : Wr) (H : Hp) (w' : Wr) (H' : Hp) : Prop where
  ids : ∀ (i : Nat) a, w.rho[i]? = some a → w'.rho[i]? = some a
  keep : ∀ a o, H a = some o → ¬ w.ph a → H' a = some o ∧ ¬ w'.ph a
theorem Rd.pass {w w' : Wr} {H H' : Hp} (p : Pass w H w' H') {a : Addr} {o : HO} (h : Rd H a o) (n : ¬ w.ph a) : Rd H' a o ∧ ¬ w'.ph a := by
  rcases h with h | ⟨u, h⟩
  · exact ⟨.inl (p.keep a _ h n).1, (p.keep a _ h n).2⟩
  · exact ⟨.inr ⟨u, (p.keep a _ h n).1⟩, (p.keep a _ h n).2⟩
mutual
theorem Rp.pass {G : Gam} {w w' : Wr} {H H' : Hp} (p : Pass w H w' H') : ∀ {d : D} {v : V}, Rp G w H d v → Rp G w' H' d v
  | _, _, .non => .non
  | _, _, .bl b => .bl b
  | _, _, .int i => .int i
  | _, _, .str x => .str x
  | _, _, .tup h n r => .tup (p.keep _ _ h n).1 (p.keep _ _ h n).2 (RpL.pass p r)
  | _, _, .tupK h r => .tupK h (RpL.pass p r)
  | _, _, .lst h n r => .lst (p.keep _ _ h n).1 (p.keep _ _ h n).2 (RpL.pass p r)
  | _, _, .dct h n e r => .dct (p.keep _ _ h n).1 (p.keep _ _ h n).2 e (RpL.pass p r)
  | _, _, .dtt h n e r => .dtt (p.keep _ _ h n).1 (p.keep _ _ h n).2 e (RpL.pass p r)
  | _, _, .ins hc h n e r => .ins hc (p.keep _ _ h n).1 (p.keep _ _ h n).2 e (RpL.pass p r)
  | _, _, .err hc h n hd nd e r => .err hc (p.keep _ _ h n).1 (p.keep _ _ h n).2 (p.keep _ _ hd nd).1 (p.keep _ _ hd nd).2 e (RpL.pass p r)
  | _, _, .err0 hc h n => .err0 hc (p.keep _ _ h n).1 (p.keep _ _ h n).2
  | _, _, .obj h => .obj (p.ids _ _ h)
  | _, _, .st => .st
  | _, _, .cls h => .cls h
theorem RpL.pass {G : Gam} {w w' : Wr} {H H' : Hp} (p : Pass w H w' H') : ∀ {ds : List D} {vs : List V}, RpL G w H ds vs → RpL G w' H' ds vs
  | _, _, .nil => .nil
  | _, _, .cons h t => .cons (Rp.pass p h) (RpL.pass p t)
end
theorem RpL.length {G : Gam} {w : Wr} {H : Hp} : ∀ {ds : List D} {vs : List V}, RpL G w H ds vs → ds.length = vs.length
  | _, _, .nil => rfl
  | _, _, .cons _ t => by rw [List.length_cons, List.length_cons, t.length]
theorem RpL.get {G : Gam} {w : Wr} {H : Hp} : ∀ {ds : List D} {vs : List V} {i : Nat} {d : D}, RpL G w H ds vs → ds[i]? = some d → ∃ v, vs[i]? = some v ∧ Rp G w H d v
  | _, _, _, _, .nil, e => by simp at e
  | _, _, 0, _, .cons h _, e => by
    simp at e; subst e
    exact ⟨_, rfl, h⟩
  | _, _, i + 1, _, .cons _ t, e => by
    obtain ⟨v, e1, h⟩ := t.get (i := i) (by simpa using e)
    exact ⟨v, by simpa using e1, h⟩
theorem RpL.getV {G : Gam} {w : Wr} {H : Hp} : ∀ {ds : List D} {vs : List V} {i : Nat} {v : V}, RpL G w H ds vs → vs[i]? = some v → ∃ d, ds[i]? = some d ∧ Rp G w H d v
  | _, _, _, _, .nil, e => by simp at e
  | _, _, 0, _, .cons h _, e => by
    simp at e; subst e
    exact ⟨_, rfl, h⟩
  | _, _, i + 1, _, .cons _ t, e => by
    obtain ⟨v, e1, h⟩ := t.getV (i := i) (by simpa using e)
    exact ⟨v, by simpa using e1, h⟩
theorem RpL.append {G : Gam} {w : Wr} {H : Hp} : ∀ {ds es : List D} {vs us : List V}, RpL G w H ds vs → RpL G w H es us → RpL G w H (ds ++ es) (vs ++ us)
  | _, _, _, _, .nil, s => s
  | _, _, _, _, .cons h t, s => .cons h (t.append s)
theorem RpL.take {G : Gam} {w : Wr} {H : Hp} : ∀ {ds : List D} {vs : List V} (n : Nat), RpL G w H ds vs → RpL G w H (ds.take n) (vs.take n)
  | _, _, 0, _ => .nil
  | _, _, _ + 1, .nil => .nil
  | _, _, n + 1, .cons h t => .cons h (t.take n)
theorem RpL.drop {G : Gam} {w : Wr} {H : Hp} : ∀ {ds : List D} {vs : List V} (n : Nat), RpL G w H ds vs → RpL G w H (ds.drop n) (vs.drop n)
  | _, _, 0, r => r
  | _, _, _ + 1, .nil => .nil
  | _, _, n + 1, .cons h t => t.drop n
theorem RpL.reverse {G : Gam} {w : Wr} {H : Hp} : ∀ {ds : List D} {vs : List V}, RpL G w H ds vs → RpL G w H ds.reverse vs.reverse
  | _, _, .nil => .nil
  | _, _, .cons h t => by
    rw [List.reverse_cons, List.reverse_cons]
    exact t.reverse.append (.cons h .nil)
theorem RpL.set {G : Gam} {w : Wr} {H : Hp} {d : D} {v : V} (h : Rp G w H d v) : ∀ {ds : List D} {vs : List V} (n : Nat), RpL G w H ds vs → RpL G w H (ds.set n d) (vs.set n v)
  | _, _, _, .nil => .nil
  | _, _, 0, .cons _ t => .cons h t
  | _, _, n + 1, .cons q t => .cons q (t.set h n)
theorem RpL.strs {G : Gam} {w : Wr} {H : Hp} : ∀ {xs : List Str} {vs : List V}, RpL G w H (xs.map D.str) vs → vs = xs.map V.str
  | [], _, .nil => rfl
  | x :: xs, _, .cons (.str _) t => by rw [List.map_cons, t.strs]

/-! ### objects, the draws' state -/
def AORp (G : Gam) (w : Wr) (H : Hp) (a : Addr) : AO → Prop
  | .lst ds => ∃ vs, H a = some (.lst vs) ∧ RpL G w H ds vs
  | .dct ds => ∃ vs, H a = some (.dK vs) ∧ ds.map (·.1) = vs.map (·.1) ∧ RpL G w H (ds.map (·.2)) (vs.map (·.2))
  | .dead => True
structure DrawOk (G : Gam) (w : Wr) (H : Hp) (cnt : Nat) : Prop where
  ex : ∃ (b c : Addr) (bigs cells : List Int), H G.dr = some (.lst [.ref b, .ref c, .int (cnt : Int)]) ∧ H b = some (.lst (bigs.map V.int)) ∧ H c = some (.lst (cells.map V.int)) ∧
    cells ≠ [] ∧ cells.length ≤ 100 ∧ bigs.length ≤ 100 ∧ (∀ x ∈ bigs, 0 ≤ x) ∧ w.mu b ∧ w.mu c ∧ b ≠ G.dr ∧ c ≠ G.dr ∧ b ≠ c ∧ b ∉ w.rho ∧ c ∉ w.rho
  mu : w.mu G.dr
  nr : G.dr ∉ w.rho
structure Ok (G : Gam) (w : Wr) (H : Hp) (s : S) : Prop where
  sub : ∀ a, w.mu a → w.ph a
  ins : ∀ a, w.ph a → H a ≠ none
  len : w.rho.length = s.objs.length
  nd : w.rho.Nodup
  rmu : ∀ a ∈ w.rho, w.mu a
  objs : ∀ (i : Nat) a o, w.rho[i]? = some a → s.objs[i]? = some o → AORp G w H a o
  draw : DrawOk G w H s.cnt
theorem Ext.pass {G : Gam} {w w' : Wr} {H H' : Hp} {s : S} (o : Ok G w H s) (e : Ext w H w' H') : Pass w H w' H' where
  ids := fun i a h => by
    obtain ⟨m, q⟩ := e.ids
    rw [q, List.getElem?_append_left (List.getElem?_eq_some_iff.mp h).1]
    exact h
  keep := fun a u h n => ⟨e.keep a u h fun z => n (o.sub a z), fun z => (e.ph2 a z).elim n fun q => by rw [h] at q; cases q⟩

/-! ### what an expression gives -/
inductive RpE (G : Gam) (w : Wr) (H : Hp) : EV → V → Prop where
  | v {d : D} {x : V} (h : Rp G w H d x) : RpE G w H (.v d) x
  | b {ds : List D} {p : Addr} {vs : List V} (h : H p = some (.lst vs)) (n : ¬ w.mu p) (f : w.ph p) (r : RpL G w H ds vs) : RpE G w H (.b (.lst ds)) (.ref p)
theorem RpE.ext {G : Gam} {w w' : Wr} {H H' : Hp} {s : S} (o : Ok G w H s) (x : Ext w H w' H') {e : EV} {v : V} (h : RpE G w H e v) : RpE G w' H' e v := by
  cases h with
  | v h => exact .v (h.pass (x.pass o))
  | b h n f r => exact .b (x.keep _ _ h n) (fun z => (x.mu2 _ z).elim n fun q => by rw [h] at q; cases q) (x.ph1 _ f) (r.pass (x.pass o))
/-- a list or a tuple, as it may be read -/
theorem RpE.lst {G : Gam} {w : Wr} {H : Hp} {e : EV} {ds : List D} {v : V} (h : RpE G w H e v) (q : e.get = .lst ds) : ∃ a vs, v = .ref a ∧ SqL G.K H a vs ∧ RpL G w H ds vs := by
  cases h with
  | v h =>
    cases q
    cases h with
    | lst h n r => exact ⟨_, _, rfl, .inl (.inl h), r⟩
  | b h n f r =>
    cases q
    exact ⟨_, _, rfl, .inl (.inl h), r⟩
theorem Rp.tupS {G : Gam} {w : Wr} {H : Hp} {ds : List D} {v : V} (h : Rp G w H (.tup ds) v) : ∃ a vs, v = .ref a ∧ SqT G.K H a vs ∧ RpL G w H ds vs := by
  cases h with
  | tup h n r => exact ⟨_, _, rfl, .inl (.inl h), r⟩
  | tupK h r => exact ⟨_, _, rfl, .inr h, r⟩
theorem RpE.tup {G : Gam} {w : Wr} {H : Hp} {e : EV} {ds : List D} {v : V} (h : RpE G w H e v) (q : e.get = .tup ds) : ∃ a vs, v = .ref a ∧ SqT G.K H a vs ∧ RpL G w H ds vs := by
  cases h with
  | v h =>
    cases q
    exact h.tupS
  | b h n f r => cases q
theorem RpE.int {G : Gam} {w : Wr} {H : Hp} {e : EV} {i : Int} {v : V} (h : RpE G w H e v) (q : e.get = .int i) : v = .int i := by
  cases h with
  | v h => cases q; cases h; rfl
  | b h n f r => cases q
theorem RpE.str {G : Gam} {w : Wr} {H : Hp} {e : EV} {i : Str} {v : V} (h : RpE G w H e v) (q : e.get = .str i) : v = .str i := by
  cases h with
  | v h => cases q; cases h; rfl
  | b h n f r => cases q
theorem RpE.bl {G : Gam} {w : Wr} {H : Hp} {e : EV} {i : Bool} {v : V} (h : RpE G w H e v) (q : e.get = .bl i) : v = .bl i := by
  cases h with
  | v h => cases q; cases h; rfl
  | b h n f r => cases q
theorem RpE.non {G : Gam} {w : Wr} {H : Hp} {e : EV} {v : V} (h : RpE G w H e v) (q : e.get = .non) : v = .non := by
  cases h with
  | v h => cases q; cases h; rfl
  | b h n f r => cases q
inductive RpEL (G : Gam) (w : Wr) (H : Hp) : List EV → List V → Prop where
  | nil : RpEL G w H [] []
  | cons {d : EV} {v : V} {ds : List EV} {vs : List V} (h : RpE G w H d v) (t : RpEL G w H ds vs) : RpEL G w H (d :: ds) (v :: vs)
theorem RpEL.ext {G : Gam} {w w' : Wr} {H H' : Hp} {s : S} (o : Ok G w H s) (x : Ext w H w' H') : ∀ {e : List EV} {v : List V}, RpEL G w H e v → RpEL G w' H' e v
  | _, _, .nil => .nil
  | _, _, .cons h t => .cons (h.ext o x) (t.ext o x)

/-! ### a frame's slots -/
structure EnvRel (G : Gam) (H0 : Hp) (w : Wr) (H : Hp) (env : Ev) (σ : Sg) : Prop where
  len : env.length = σ.length
  val : ∀ (i : Nat) d, env[i]? = some (some (.v d)) → ∃ v, σ[i]? = some (some v) ∧ Rp G w H d v
  own : ∀ (i : Nat) d, env[i]? = some (some (.own d)) → ∃ p ds vs, d = .lst ds ∧ σ[i]? = some (some (.ref p)) ∧ H p = some (.lst vs) ∧ RpL G w H ds vs ∧ w.ph p ∧ ¬ w.mu p ∧ H0 p = none
  dis : ∀ (i j : Nat) d e p, env[i]? = some (some (.own d)) → env[j]? = some (some (.own e)) → σ[i]? = some (some (.ref p)) → σ[j]? = some (some (.ref p)) → i = j
theorem EnvRel.ext {G : Gam} {H0 : Hp} {w w' : Wr} {H H' : Hp} {s : S} {env : Ev} {σ : Sg} (o : Ok G w H s) (x : Ext w H w' H') (e : EnvRel G H0 w H env σ) : EnvRel G H0 w' H' env σ where
  len := e.len
  val := fun i d h => by
    obtain ⟨v, e1, r⟩ := e.val i d h
    exact ⟨v, e1, r.pass (x.pass o)⟩
  own := fun i d h => by
    obtain ⟨p, ds, vs, e0, e1, e2, r, f, n, z⟩ := e.own i d h
    exact ⟨p, ds, vs, e0, e1, x.keep _ _ e2 n, r.pass (x.pass o), x.ph1 _ f, (fun z => (x.mu2 _ z).elim n fun q => by rw [e2] at q; cases q), z⟩
  dis := e.dis

/-! ### an exception in the air -/
def RpF (G : Gam) (w : Wr) (H : Hp) (ds : List (Str × D)) (vs : List (Str × V)) : Prop := ds.map (·.1) = vs.map (·.1) ∧ RpL G w H (ds.map (·.2)) (vs.map (·.2))
theorem RpF.pass {G : Gam} {w w' : Wr} {H H' : Hp} (p : Pass w H w' H') {ds : List (Str × D)} {vs : List (Str × V)} (h : RpF G w H ds vs) : RpF G w' H' ds vs := ⟨h.1, h.2.pass p⟩
theorem RpF.look {G : Gam} {w : Wr} {H : Hp} {f : Str} {d : D} : ∀ {ds : List (Str × D)} {vs : List (Str × V)}, RpF G w H ds vs → ds.lookup f = some d → ∃ v, vs.lookup f = some v ∧ Rp G w H d v
  | [], _, _, h => by cases h
  | (y, e) :: ds, [], ⟨q, _⟩, _ => by cases q
  | (y, e) :: ds, (z, v) :: vs, ⟨q, r⟩, h => by
    simp only [List.map_cons, List.cons.injEq] at q
    obtain ⟨rfl, q⟩ := q
    cases r with
    | cons r1 r2 =>
      rw [List.lookup_cons] at h ⊢
      split at h
      · cases h
        exact ⟨v, rfl, r1⟩
      · exact RpF.look ⟨q, r2⟩ h
def ExRp (G : Gam) (w : Wr) (H : Hp) (x : XV) (c : Value) (dx : Option Addr) : Prop :=
  ∃ C d fs, G.cls.ex x.C = some C ∧ c = .ref C ∧ dx = some d ∧ H d = some (.xd fs) ∧ ¬ w.ph d ∧ RpF G w H x.fs fs

/-! ### what is wanted of a result -/
abbrev XW := Value → Option Addr → Hp → Prop
def Post {α : Type} (G : Gam) (w : Wr) (H : Hp) (R : α → S → Wr → Hp → Prop) (W : XW) : Res α → Prop
  | .ok a s => ∀ w' H', Ext w H w' H' → Ok G w' H' s → R a s w' H'
  | .exc x s => ∀ c dx w' H', Ext w H w' H' → Ok G w' H' s → ExRp G w' H' x c dx → W c dx H'
  | .ch n k => ∀ r, r < n → Post G w H R W (k r)
  | .fail => False
theorem Post.ext {α : Type} {G : Gam} {w w1 : Wr} {H H1 : Hp} {R : α → S → Wr → Hp → Prop} {W : XW} (x : Ext w H w1 H1) : ∀ {r : Res α}, Post G w H R W r → Post G w1 H1 R W r
  | .ok a s, h => fun w' H' e o => h w' H' (x.trans e) o
  | .exc _ _, h => fun c d w' H' e o q => h c d w' H' (x.trans e) o q
  | .ch n k, h => fun r hr => Post.ext x (h r hr)
  | .fail, h => h
theorem Post.imp {α : Type} {G : Gam} {w : Wr} {H : Hp} {R R' : α → S → Wr → Hp → Prop} {W W' : XW} (hi : ∀ a s w1 H1, Ext w H w1 H1 → Ok G w1 H1 s → R a s w1 H1 → R' a s w1 H1) (hW : ∀ c d H, W c d H → W' c d H) :
    ∀ {r : Res α}, Post G w H R W r → Post G w H R' W' r
  | .ok a s, h => fun w' H' e o => hi a s w' H' e o (h w' H' e o)
  | .exc _ _, h => fun c d w' H' e o q => hW _ _ _ (h c d w' H' e o q)
  | .ch n k, h => fun r hr => Post.imp hi hW (h r hr)
  | .fail, h => h
theorem Post.bind {α β : Type} {G : Gam} {w : Wr} {H : Hp} {R : β → S → Wr → Hp → Prop} {W : XW} {f : α → S → Res β} : ∀ {m : Res α}, Post G w H R W (m.bind f) → Post G w H (fun a s w1 H1 => Post G w1 H1 R W (f a s)) W m
  | .ok a s, h => fun w' H' e o => Post.ext (show Ext w H w' H' from e) h
  | .exc _ _, h => h
  | .ch n k, h => fun r hr => Post.bind (m := k r) (h r hr)
  | .fail, h => h

/-! ### readings -/
abbrev ME := Ev → S → Res EV
abbrev MT := Ev → S → Res Bool
abbrev MA := Ev → S → Res (List EV)
def tM (G : Gam) (W : WX) (m : ME) : TE := fun σ H Q => ∃ w env s H0, Ok G w H s ∧ EnvRel G H0 w H env σ ∧ Post G w H (fun e _ w' H' => ∀ v, RpE G w' H' e v → Q v H') (fun c d H' => W c d σ H') (m env s)
def tMT (G : Gam) (W : WX) (m : MT) : TT := fun σ H Q => ∃ w env s H0, Ok G w H s ∧ EnvRel G H0 w H env σ ∧ Post G w H (fun b _ w' H' => Q b H') (fun c d H' => W c d σ H') (m env s)
def tMA (G : Gam) (W : WX) (m : MA) : TA := fun σ H Q => ∃ w env s H0, Ok G w H s ∧ EnvRel G H0 w H env σ ∧ Post G w H (fun es _ w' H' => ∀ vs, RpEL G w' H' es vs → Q vs H') (fun c d H' => W c d σ H') (m env s)
theorem PE.mono {X : Cx} {e : Expr} {t t' : TE} (h : PE X e t) (hi : ∀ σ H Q, t' σ H Q → t σ H Q) : PE X e t' := ⟨fun pins s σ H Q I q => h.run pins s σ H Q I (hi σ H Q q)⟩
theorem PT.mono {X : Cx} {e : Expr} {t t' : TT} (h : PT X e t) (hi : ∀ σ H Q, t' σ H Q → t σ H Q) : PT X e t' := ⟨fun pins s σ H Q I q => h.run pins s σ H Q I (hi σ H Q q)⟩
theorem PA.mono {X : Cx} {e : List Expr} {t t' : TA} (h : PA X e t) (hi : ∀ σ H Q, t' σ H Q → t σ H Q) : PA X e t' := ⟨fun pos pins s σ H Q I q => h.run pos pins s σ H Q I (hi σ H Q q)⟩
theorem PS.mono {X : Cx} {e : Stmt} {t t' : TS} (h : PS X e t) (hi : ∀ Dn σ H, t' Dn σ H → t Dn σ H) : PS X e t' := ⟨fun pins s σ H Q I q => h.run pins s σ H Q I (hi Q σ H q)⟩
theorem PSs.mono {X : Cx} {e : List Stmt} {t t' : TS} (h : PSs X e t) (hi : ∀ Dn σ H, t' Dn σ H → t Dn σ H) : PSs X e t' := ⟨fun pins s σ H Q I q => h.run pins s σ H Q I (hi Q σ H q)⟩

/-! ### a new object -/
theorem Ext.new {w : Wr} {H : Hp} {p : Addr} (n : H p = none) (o : HO) : Ext w H w (upd H p o) where
  ids := ⟨[], by simp⟩
  ph1 := fun _ h => h
  ph2 := fun _ h => .inl h
  mu1 := fun _ h => h
  mu2 := fun _ h => .inl h
  keep := fun a u h _ => by rw [upd_ne (ne_of_none h n)]; exact h
  dom := fun a h => by
    by_cases e : a = p
    · rw [e]; exact n
    · rw [upd_ne e] at h; exact h
theorem DrawOk.keep {G : Gam} {w w' : Wr} {H H' : Hp} {c : Nat} (d : DrawOk G w H c) (k : ∀ a o, H a = some o → w.mu a → a ∉ w.rho → H' a = some o ∧ a ∉ w'.rho) (m : ∀ a, w.mu a → w'.mu a) : DrawOk G w' H' c := by
  obtain ⟨⟨b, c, bg, cl, h1, h2, h3, h4, h5, h6, h7, h8, h9, h10, h11, h12, h13, h14⟩, h15, h16⟩ := d
  exact ⟨⟨b, c, bg, cl, (k _ _ h1 h15 h16).1, (k _ _ h2 h8 h13).1, (k _ _ h3 h9 h14).1, h4, h5, h6, h7, m _ h8, m _ h9, h10, h11, h12, (k _ _ h2 h8 h13).2, (k _ _ h3 h9 h14).2⟩, m _ h15, (k _ _ h1 h15 h16).2⟩
theorem AORp.pass {G : Gam} {w w' : Wr} {H H' : Hp} (p : Pass w H w' H') {a : Addr} (k : ∀ o, H a = some o → H' a = some o) : ∀ {o : AO}, AORp G w H a o → AORp G w' H' a o
  | .lst _, ⟨vs, h, r⟩ => ⟨vs, k _ h, r.pass p⟩
  | .dct _, ⟨vs, h, e, r⟩ => ⟨vs, k _ h, e, r.pass p⟩
  | .dead, _ => trivial
theorem Ok.new {G : Gam} {w : Wr} {H : Hp} {s : S} {p : Addr} (k : Ok G w H s) (n : H p = none) (o : HO) : Ok G w (upd H p o) s := by
  have kk : ∀ a u, H a = some u → upd H p o a = some u := fun a u h => by rw [upd_ne (ne_of_none h n)]; exact h
  refine ⟨k.sub, fun a h z => ?_, k.len, k.nd, k.rmu, fun i a u h1 h2 => ?_, ?_⟩
  · exact k.ins a h ((Ext.new (w := w) n o).dom a z)
  · exact (k.objs i a u h1 h2).pass ((Ext.new n o).pass k) (kk a)
  · exact k.draw.keep (fun a u h _ h' => ⟨kk a u h, h'⟩) fun _ h => h
theorem Ok.nph {G : Gam} {w : Wr} {H : Hp} {s : S} {p : Addr} (k : Ok G w H s) (n : H p = none) : ¬ w.ph p := fun h => k.ins p h n
theorem RpL.new {G : Gam} {w : Wr} {H : Hp} {s : S} {p : Addr} (k : Ok G w H s) (n : H p = none) (o : HO) {ds : List D} {vs : List V} (r : RpL G w H ds vs) : RpL G w (upd H p o) ds vs := r.pass ((Ext.new n o).pass k)
theorem Rp.newL {G : Gam} {w : Wr} {H : Hp} {s : S} {p : Addr} (k : Ok G w H s) (n : H p = none) {ds : List D} {vs : List V} (r : RpL G w H ds vs) : Rp G w (upd H p (.lst vs)) (.lst ds) (.ref p) := .lst upd_same (k.nph n) (r.new k n _)
theorem Rp.newT {G : Gam} {w : Wr} {H : Hp} {s : S} {p : Addr} (k : Ok G w H s) (n : H p = none) {ds : List D} {vs : List V} (r : RpL G w H ds vs) : Rp G w (upd H p (.tup vs)) (.tup ds) (.ref p) := .tup upd_same (k.nph n) (r.new k n _)
end SR

set_option Elab.async false
set_option linter.all false
set_option maxRecDepth 100000
set_option autoImplicit false
/-! Expressions. -/
namespace SR
open PySem PySem.Spec PyProof.Rows
open L2 hiding St

abbrev PQ (G : Gam) (w : Wr) (H : Hp) (Q : VK) (W : XW) (r : Res EV) : Prop := Post G w H (fun e _ w' H' => ∀ v, RpE G w' H' e v → Q v H') W r
/-! ### ends -/
section
variable {G : Gam} {w : Wr} {H : Hp} {s : S} {Q : VK} {W : XW}
theorem PQ.now {e : EV} (h : PQ G w H Q W (.ok e s)) (k : Ok G w H s) {v : V} (r : RpE G w H e v) : Q v H := h w H (Ext.refl w H) k v r
theorem PQ.newL {ds : List D} {vs : List V} {p : Addr} (h : PQ G w H Q W (.ok (.v (.lst ds)) s)) (k : Ok G w H s) (n : H p = none) (r : RpL G w H ds vs) : Q (.ref p) (upd H p (.lst vs)) :=
  h w _ (Ext.new n _) (k.new n _) _ (.v (Rp.newL k n r))
theorem PQ.newT {ds : List D} {vs : List V} {p : Addr} (h : PQ G w H Q W (.ok (.v (.tup ds)) s)) (k : Ok G w H s) (n : H p = none) (r : RpL G w H ds vs) : Q (.ref p) (upd H p (.tup vs)) :=
  h w _ (Ext.new n _) (k.new n _) _ (.v (Rp.newT k n r))
end

/-! ### two operands -/
def m2 {α : Type} (ma mb : ME) (f : EV → EV → S → Res α) : Ev → S → Res α := fun env s => (ma env s).bind fun x s => (mb env s).bind fun y s => f x y s
def OpD (G : Gam) (r : R2) (f : EV → EV → S → Res EV) : Prop := ∀ (w : Wr) (H : Hp) (s : S) (x y : EV) (vx vy : V) (Q : VK) (W : XW), Ok G w H s → RpE G w H x vx → RpE G w H y vy → PQ G w H Q W (f x y s) → r vx vy H Q
theorem tm2 {G : Gam} {W : WX} {ma mb : ME} {f : EV → EV → S → Res EV} {r : R2} (hf : OpD G r f) {σ : Sg} {H : Hp} {Q : VK} (h : tM G W (m2 ma mb f) σ H Q) : tOp r (tM G W ma) (tM G W mb) σ H Q := by
  obtain ⟨w, env, s, H0, k, er, p⟩ := h
  refine ⟨w, env, s, H0, k, er, (Post.bind p).imp (fun x s1 w1 H1 x1 k1 p1 v1 r1 => ?_) fun _ _ _ z => z⟩
  refine ⟨w1, env, s1, H0, k1, er.ext k x1, (Post.bind p1).imp (fun y s2 w2 H2 x2 k2 p2 v2 r2 => ?_) fun _ _ _ z => z⟩
  exact hf w2 H2 s2 x y v1 v2 Q _ k2 (r1.ext k1 x2) r2 p2
theorem je_op {G : Gam} {X : Cx} {W : WX} {op : Operator} {a b : Expr} {pos : Pos} {ma mb : ME} {f : EV → EV → S → Res EV} {r : R2} (ho : OpR X (binaryOp op) r) (hf : OpD G r f) (ha : PE X a (tM G W ma)) (hb : PE X b (tM G W mb)) :
    PE X (.BinOp a op b pos) (tM G W (m2 ma mb f)) := PE.mono (pe_op ho ha hb) fun _ _ _ h => tm2 hf h
theorem je_cmp {G : Gam} {X : Cx} {W : WX} {op : CmpOp} {a b : Expr} {pos : Pos} {ma mb : ME} {f : EV → EV → S → Res EV} {r : R2} (ho : OpR X (compareOp op) r) (hf : OpD G r f) (ha : PE X a (tM G W ma)) (hb : PE X b (tM G W mb)) (hm : behindInMarks op b = false) :
    PE X (.Compare a [op] [b] pos) (tM G W (m2 ma mb f)) := PE.mono (pe_cmpR ho ha hb hm) fun _ _ _ h => tm2 hf h
theorem je_ix {G : Gam} {X : Cx} {W : WX} {a b : Expr} {pos : Pos} {ma mb : ME} {f : EV → EV → S → Res EV} {r : R2} (ho : IxR X r) (hf : OpD G r f) (ha : PE X a (tM G W ma)) (hb : PE X b (tM G W mb)) (hs : PlainIx b) :
    PE X (.Subscript a b pos) (tM G W (m2 ma mb f)) := PE.mono (pe_ix ho ha hb hs) fun _ _ _ h => tm2 hf h
def rOr (r r' : R2) : R2 := fun x y H Q => r x y H Q ∨ r' x y H Q
theorem OpR.or {X : Cx} {f : Value → Value → Sem Value} {r r' : R2} (a : OpR X f r) (b : OpR X f r') : OpR X f (rOr r r') := fun pins s σ H x y v u Q I rx ry h => h.elim (a pins s σ H x y v u Q I rx ry) (b pins s σ H x y v u Q I rx ry)

/-! ### +, -, *, //, %, ** -/
def addD (x y : EV) (s : S) : Res EV := match x.get, y.get with
  | .int i, .int j => .ok (.v (.int (i + j))) s
  | .str i, .str j => if i.length + j.length ≤ sizeLine then .ok (.v (.str (i ++ j))) s else .fail
  | .lst a, .lst b => if a.length + b.length ≤ sizeLine then .ok (.v (.lst (a ++ b))) s else .fail
  | .tup a, .tup b => if a.length + b.length ≤ sizeLine then .ok (.v (.tup (a ++ b))) s else .fail
  | _, _ => .fail
theorem RpE.lstH {G : Gam} {w : Wr} {H : Hp} {e : EV} {ds : List D} {v : V} (h : RpE G w H e v) (q : e.get = .lst ds) : ∃ a vs, v = .ref a ∧ H a = some (.lst vs) ∧ RpL G w H ds vs := by
  cases h with
  | v h =>
    cases q
    cases h with
    | lst h n r => exact ⟨_, _, rfl, h, r⟩
  | b h n f r =>
    cases q
    exact ⟨_, _, rfl, h, r⟩
abbrev rAddS : R2 := fun x y H Q => ∃ i j, x = .str i ∧ y = .str j ∧ i.length + j.length ≤ sizeLine ∧ Q (.str (i ++ j)) H
abbrev rAddAll (K : PySem.W.Frag) : R2 := rOr (rI0 fun i j => .int (i + j)) (rOr rAddS (rOr rCat (rCatA K)))
theorem op_addAll {X : Cx} : OpR X (binaryOp .Add) (rAddAll X.K) := OpR.or op_add (OpR.or op_add_str (OpR.or op_cat op_catA))
theorem opD_add {G : Gam} : OpD G (rAddAll G.K) addD := by
  intro w H s x y vx vy Q W k rx ry h
  unfold addD at h
  split at h
  · rename_i i j ex ey
    exact .inl ⟨i, j, rx.int ex, ry.int ey, h.now k (.v (.int _))⟩
  · rename_i i j ex ey
    split at h
    · rename_i hl
      exact .inr (.inl ⟨i, j, rx.str ex, ry.str ey, hl, h.now k (.v (.str _))⟩)
    · exact h.elim
  · rename_i a b ex ey
    split at h
    · rename_i hl
      obtain ⟨p, vs, rfl, hp, r1⟩ := rx.lstH ex
      obtain ⟨q, us, rfl, hq, r2⟩ := ry.lstH ey
      refine .inr (.inr (.inl ⟨p, q, vs, us, rfl, rfl, hp, hq, ?_, fun l nl => h.newL k nl (r1.append r2)⟩))
      rw [← r1.length, ← r2.length]
      exact hl
    · exact h.elim
  · rename_i a b ex ey
    split at h
    · rename_i hl
      obtain ⟨p, vs, rfl, hp, r1⟩ := rx.tup ex
      obtain ⟨q, us, rfl, hq, r2⟩ := ry.tup ey
      refine .inr (.inr (.inr ⟨p, q, vs, us, rfl, rfl, hp, hq, by rw [← r1.length, ← r2.length]; exact hl, fun e => ?_, fun _ e => ?_, fun _ _ l nl => h.newT k nl (r1.append r2)⟩))
      · subst e
        cases r1
        cases ry with
        | v ry => cases ey; exact h.now k (.v ry)
        | b _ _ _ _ => cases ey
      · subst e
        cases r2
        rw [List.append_nil] at h
        cases rx with
        | v rx => cases ex; exact h.now k (.v rx)
        | b _ _ _ _ => cases ex
    · exact h.elim
  · exact h.elim
def intD (C : Int → Int → Bool) (g : Int → Int → Int) (x y : EV) (s : S) : Res EV := match x.get, y.get with
  | .int i, .int j => if C i j then .ok (.v (.int (g i j))) s else .fail
  | _, _ => .fail
theorem opD_int {G : Gam} {C : Int → Int → Bool} {P : Int → Int → Prop} {g : Int → Int → Int} (hc : ∀ i j, C i j = true → P i j) : OpD G (rI P fun i j => .int (g i j)) (intD C g) := by
  intro w H s x y vx vy Q W k rx ry h
  unfold intD at h
  split at h
  · rename_i i j ex ey
    split at h
    · rename_i hl
      exact ⟨i, j, rx.int ex, ry.int ey, hc i j hl, h.now k (.v (.int _))⟩
    · exact h.elim
  · exact h.elim
theorem opD_int0 {G : Gam} {g : Int → Int → Int} : OpD G (rI0 fun i j => .int (g i j)) (intD (fun _ _ => true) g) := by
  intro w H s x y vx vy Q W k rx ry h
  unfold intD at h
  split at h
  · rename_i i j ex ey
    exact ⟨i, j, rx.int ex, ry.int ey, h.now k (.v (.int _))⟩
  · exact h.elim
def subD : EV → EV → S → Res EV := intD (fun _ _ => true) (fun i j => i - j)
def mulD : EV → EV → S → Res EV := intD (fun i j => (decide (-(2 ^ 64) < i) && decide (i < 2 ^ 64)) || (decide (-(2 ^ 64) < j) && decide (j < 2 ^ 64))) (fun i j => i * j)
def divD : EV → EV → S → Res EV := intD (fun _ j => decide (0 < j) && decide (j < 1073741824)) (fun i j => i / j)
def modD : EV → EV → S → Res EV := intD (fun _ j => decide (0 < j)) (fun i j => i % j)
def powD : EV → EV → S → Res EV := intD (fun i j => decide (0 ≤ j) && decide (j ≤ 1000000) && decide (i.natAbs < 2 ^ 64)) (fun i j => i ^ j.toNat)
theorem opD_sub {G : Gam} : OpD G (rI0 fun i j => .int (i - j)) subD := opD_int0
theorem opD_mul {G : Gam} : OpD G (rI CMul fun i j => .int (i * j)) mulD := opD_int fun i j h => by
  simp only [Bool.or_eq_true, Bool.and_eq_true, decide_eq_true_eq] at h
  exact h
theorem opD_div {G : Gam} : OpD G (rI CDiv fun i j => .int (i / j)) divD := opD_int fun i j h => by
  simp only [Bool.and_eq_true, decide_eq_true_eq] at h
  exact h
theorem opD_mod {G : Gam} : OpD G (rI (fun _ j => 0 < j) fun i j => .int (i % j)) modD := opD_int fun i j h => by
  simp only [decide_eq_true_eq] at h
  exact h
theorem opD_pow {G : Gam} : OpD G (rI CPow fun i j => .int (i ^ j.toNat)) powD := opD_int fun i j h => by
  simp only [Bool.and_eq_true, decide_eq_true_eq] at h
  exact ⟨h.1.1, h.1.2, h.2⟩

/-! ### comparisons -/
def ltD (g : Int → Int → Bool) (x y : EV) (s : S) : Res EV := match x.get, y.get with
  | .int i, .int j => .ok (.v (.bl (g i j))) s
  | _, _ => .fail
theorem opD_lt {G : Gam} {g : Int → Int → Bool} : OpD G (rI0 fun i j => .bl (g i j)) (ltD g) := by
  intro w H s x y vx vy Q W k rx ry h
  unfold ltD at h
  split at h
  · rename_i i j ex ey
    exact ⟨i, j, rx.int ex, ry.int ey, h.now k (.v (.bl _))⟩
  · exact h.elim
/- data without objects -/
mutual
def toPy : D → Option PyData
  | .non => some .none
  | .bl b => some (.bool b)
  | .int i => some (.int i)
  | .str x => some (.str x)
  | .lst xs => (toPys xs).map .list
  | .tup xs => (toPys xs).map .tuple
  | .dct _ => none
  | .dtt _ => none
  | .ins _ _ => none
  | .err _ _ => none
  | .obj _ => none
  | .st => none
  | .cls _ => none
def toPys : List D → Option (List PyData)
  | [] => some []
  | d :: ds => match toPy d, toPys ds with
    | some p, some ps => some (p :: ps)
    | _, _ => none
end
mutual
theorem Rp.dp {G : Gam} {w : Wr} {H : Hp} : ∀ {d : D} {v : V} {p : PyData}, Rp G w H d v → toPy d = some p → Dp G.K H v p
  | _, _, _, .non, h => by cases h; exact .non
  | _, _, _, .bl _, h => by cases h; exact .bl _
  | _, _, _, .int _, h => by cases h; exact .int _
  | _, _, _, .str _, h => by cases h; exact .str _
  | .tup xs, _, _, .tup q n r, h => by
    unfold toPy at h
    cases e : toPys xs with
    | none => rw [e] at h; cases h
    | some ps => rw [e] at h; cases h; exact .tup (.inl (.inl q)) (RpL.dp r e)
  | .tup xs, _, _, .tupK q r, h => by
    unfold toPy at h
    cases e : toPys xs with
    | none => rw [e] at h; cases h
    | some ps => rw [e] at h; cases h; exact .tup (.inr q) (RpL.dp r e)
  | .lst xs, _, _, .lst q n r, h => by
    unfold toPy at h
    cases e : toPys xs with
    | none => rw [e] at h; cases h
    | some ps => rw [e] at h; cases h; exact .lst (.inl (.inl q)) (RpL.dp r e)
  | _, _, _, .dct _ _ _ _, h => by cases h
  | _, _, _, .dtt _ _ _ _, h => by cases h
  | _, _, _, .ins _ _ _ _ _, h => by cases h
  | _, _, _, .err _ _ _ _ _ _ _, h => by cases h
  | _, _, _, .err0 _ _ _, h => by cases h
  | _, _, _, .obj _, h => by cases h
  | _, _, _, .st, h => by cases h
  | _, _, _, .cls _, h => by cases h
theorem RpL.dp {G : Gam} {w : Wr} {H : Hp} : ∀ {d : List D} {v : List V} {p : List PyData}, RpL G w H d v → toPys d = some p → DpAll G.K H v p
  | _, _, _, .nil, h => by cases h; exact .nil
  | d :: ds, _, _, .cons q t, h => by
    unfold toPys at h
    split at h
    · rename_i p ps e1 e2
      cases h
      exact .cons (Rp.dp q e1) (RpL.dp t e2)
    · cases h
end
theorem RpE.dp {G : Gam} {w : Wr} {H : Hp} {e : EV} {v : V} {p : PyData} (h : RpE G w H e v) (q : toPy e.get = some p) : Dp G.K H v p := by
  cases h with
  | v h => exact h.dp q
  | @b ds a vs h n f r =>
    rw [EV.get_b] at q
    unfold toPy at q
    cases e : toPys ds with
    | none => rw [e] at q; cases q
    | some ps => rw [e] at q; cases q; exact .lst (.inl (.inl h)) (r.dp e)
/-- the two as data, within what the comparison allows -/
def py? (d : D) : Option PyData := (toPy d).bind fun p => if SeqAt.shaped p then some p else none
theorem py?_some {d : D} {p : PyData} (h : py? d = some p) : toPy d = some p ∧ SeqAt.shaped p = true := by
  unfold py? at h
  cases e : toPy d with
  | none => rw [e] at h; cases h
  | some q =>
    rw [e] at h
    simp only [Option.bind_some] at h
    split at h
    · cases h; exact ⟨rfl, by assumption⟩
    · cases h
def eqD (neg : Bool) (x y : EV) (s : S) : Res EV := match py? x.get, py? y.get with
  | some p, some q => .ok (.v (.bl (PyData.eqv p q != neg))) s
  | _, _ => .fail
theorem opD_eq {G : Gam} : OpD G (rEqD G.K) (eqD false) := by
  intro w H s x y vx vy Q W k rx ry h
  unfold eqD at h
  split at h
  · rename_i p q ex ey
    obtain ⟨e1, s1⟩ := py?_some ex
    obtain ⟨e2, s2⟩ := py?_some ey
    rw [Bool.bne_false] at h
    exact ⟨p, q, rx.dp e1, ry.dp e2, s1, s2, h.now k (.v (.bl _))⟩
  · exact h.elim
theorem opD_ne {G : Gam} : OpD G (rNeD G.K) (eqD true) := by
  intro w H s x y vx vy Q W k rx ry h
  unfold eqD at h
  split at h
  · rename_i p q ex ey
    obtain ⟨e1, s1⟩ := py?_some ex
    obtain ⟨e2, s2⟩ := py?_some ey
    rw [Bool.bne_true] at h
    exact ⟨p, q, rx.dp e1, ry.dp e2, s1, s2, h.now k (.v (.bl _))⟩
  · exact h.elim
/-- x in y: a sign in a text (or any text in a text), a datum in a list -/
def strIn (i j : Str) : Bool := !(Builtin.Str.occurrences j i 0 j.length 1).isEmpty
def inD (neg : Bool) (x y : EV) (s : S) : Res EV := match x.get, y.get with
  | .str i, .str j => .ok (.v (.bl (strIn i j != neg))) s
  | d, .lst ds => match py? d, py? (.lst ds) with
    | some p, some (.list ps) => .ok (.v (.bl ((ps.any fun z => PyData.eqv z p) != neg))) s
    | _, _ => .fail
  | _, _ => .fail
abbrev rInS : R2 := fun x y H Q => ∃ i j, x = .str i ∧ y = .str j ∧ Q (.bl (!(Builtin.Str.occurrences j i 0 j.length 1).isEmpty)) H
abbrev rNotInS : R2 := fun x y H Q => ∃ i j, x = .str i ∧ y = .str j ∧ Q (.bl (!(!(Builtin.Str.occurrences j i 0 j.length 1).isEmpty))) H
theorem opD_in {G : Gam} : OpD G (rOr rInS (rInD G.K)) (inD false) := by
  intro w H s x y vx vy Q W k rx ry h
  unfold inD at h
  split at h
  · rename_i i j ex ey
    rw [Bool.bne_false] at h
    exact .inl ⟨i, j, rx.str ex, ry.str ey, h.now k (.v (.bl _))⟩
  · rename_i ds ey
    split at h
    · rename_i p ps e1 e2
      obtain ⟨e1, s1⟩ := py?_some e1
      obtain ⟨e2, s2⟩ := py?_some e2
      rw [Bool.bne_false] at h
      exact .inr ⟨p, ps, rx.dp e1, ry.dp (by rw [ey]; exact e2), s1, s2, h.now k (.v (.bl _))⟩
    · exact h.elim
  · exact h.elim
theorem opD_notIn {G : Gam} : OpD G (rOr rNotInS (rNotInD G.K)) (inD true) := by
  intro w H s x y vx vy Q W k rx ry h
  unfold inD at h
  split at h
  · rename_i i j ex ey
    rw [Bool.bne_true] at h
    exact .inl ⟨i, j, rx.str ex, ry.str ey, h.now k (.v (.bl _))⟩
  · rename_i ds ey
    split at h
    · rename_i p ps e1 e2
      obtain ⟨e1, s1⟩ := py?_some e1
      obtain ⟨e2, s2⟩ := py?_some e2
      rw [Bool.bne_true] at h
      exact .inr ⟨p, ps, rx.dp e1, ry.dp (by rw [ey]; exact e2), s1, s2, h.now k (.v (.bl _))⟩
    · exact h.elim
  · exact h.elim

/-! ### subscripts -/
def ixD (x y : EV) (s : S) : Res EV := match x.get, y.get with
  | .lst ds, .int i => match atI ds i with | some d => .ok (.v d) s | none => .fail
  | .tup ds, .int i => match atI ds i with | some d => .ok (.v d) s | none => .fail
  | .str z, .int i => if z.length ≤ sizeLine then (match atI z.cps.toList i with | some c => .ok (.v (.str ⟨#[c]⟩)) s | none => .fail) else .fail
  | _, _ => .fail
theorem RpL.atI {G : Gam} {w : Wr} {H : Hp} {ds : List D} {vs : List V} {i : Int} {d : D} (r : RpL G w H ds vs) (h : L2.atI ds i = some d) : ∃ v, L2.atI vs i = some v ∧ Rp G w H d v := by
  unfold L2.atI at h ⊢
  rw [← r.length]
  cases e : ixN ds.length i with
  | none => rw [e] at h; cases h
  | some j =>
    rw [e] at h
    exact r.get h
theorem opD_ix {G : Gam} : OpD G (rIx G.K) ixD := by
  intro w H s x y vx vy Q W k rx ry h
  unfold ixD at h
  split at h
  · rename_i ds i ex ey
    split at h
    · rename_i d e
      obtain ⟨a, vs, rfl, hq, r⟩ := rx.lst ex
      obtain ⟨v, e1, r1⟩ := r.atI e
      exact .inl ⟨a, vs, i, v, rfl, ry.int ey, hq, e1, h.now k (.v r1)⟩
    · exact h.elim
  · rename_i ds i ex ey
    split at h
    · rename_i d e
      obtain ⟨a, vs, rfl, hq, r⟩ := rx.tup ex
      obtain ⟨v, e1, r1⟩ := r.atI e
      exact .inr (.inl ⟨a, vs, i, v, rfl, ry.int ey, hq, e1, h.now k (.v r1)⟩)
    · exact h.elim
  · rename_i z i ex ey
    split at h
    · rename_i hz
      split at h
      · rename_i c e
        exact .inr (.inr ⟨z, i, c, rx.str ex, ry.int ey, hz, e, h.now k (.v (.str _))⟩)
      · exact h.elim
    · exact h.elim
  · exact h.elim

/-! ### names, constants -/
def mVar (i : Nat) : ME := fun env s => match env[i]? with
  | some (some (.v d)) => .ok (.v d) s
  | some (some (.own d)) => .ok (.b d) s
  | _ => .fail
theorem je_var {G : Gam} {X : Cx} {W : WX} {i : Nat} {x : Str} {pos : Pos} (hN : X.N[i]? = some x) (hv : Vis X.env.scope x) (hd : (x == ("__debug__" : Str)) = false) (hcd : (x == ("__classdict__" : Str)) = false) : PE X (.Name x pos) (tM G W (mVar i)) := by
  refine PE.mono (pe_var hN hv hd hcd) fun σ H Q ⟨w, env, s, H0, k, er, p⟩ => ?_
  unfold mVar at p
  split at p
  · rename_i d e
    obtain ⟨v, e1, r⟩ := er.val i d e
    exact ⟨v, e1, PQ.now p k (.v r)⟩
  · rename_i d e
    obtain ⟨a, ds, vs, rfl, e1, e2, r, f, n, _⟩ := er.own i d e
    exact ⟨.ref a, e1, PQ.now p k (.b e2 n f r)⟩
  · exact p.elim
def mC (d : D) : ME := fun _ s => .ok (.v d) s
theorem je_c {G : Gam} {X : Cx} {W : WX} {e : Expr} {d : D} {v : V} (h : PE X e (tC v)) (hr : ∀ w H, Rp G w H d v) : PE X e (tM G W (mC d)) :=
  PE.mono h fun σ H Q ⟨w, env, s, H0, k, er, p⟩ => PQ.now p k (.v (hr w H))

/-! ### tests -/
def mTest (m : ME) : MT := fun env s => (m env s).bind fun e s => match e.get with | .bl b => .ok b s | _ => .fail
theorem tmB {G : Gam} {W : WX} {m : ME} {σ : Sg} {H : Hp} {Q : Bool → Hp → Prop} (h : tMT G W (mTest m) σ H Q) : tB (tM G W m) σ H Q := by
  obtain ⟨w, env, s, H0, k, er, p⟩ := h
  refine ⟨w, env, s, H0, k, er, (Post.bind p).imp (fun x s1 w1 H1 x1 k1 p1 v1 r1 => ?_) fun _ _ _ z => z⟩
  split at p1
  · rename_i b e
    exact ⟨b, r1.bl e, p1 w1 H1 (Ext.refl _ _) k1⟩
  · exact p1.elim
theorem jt_val {G : Gam} {X : Cx} {W : WX} {e : Expr} {m : ME} (h : PE X e (tM G W m)) (he : ∀ whole, isTrue e X.env whole = (do let v ← whole; standAt e.pos; holding [v] (truthy v))) : PT X e (tMT G W (mTest m)) :=
  PT.mono (pt_val h he) fun _ _ _ q => tmB q
theorem jt_cmp {G : Gam} {X : Cx} {W : WX} {op : CmpOp} {a b : Expr} {pos : Pos} {ma mb : ME} {f : EV → EV → S → Res EV} {r : R2} (ho : OpR X (compareOp op) r) (hf : OpD G r f) (ha : PE X a (tM G W ma)) (hb : PE X b (tM G W mb)) (hm : behindInMarks op b = false) :
    PT X (.Compare a [op] [b] pos) (tMT G W (mTest (m2 ma mb f))) :=
  PT.mono (pt_cmpR ho ha hb hm) fun σ H Q h => by
    have h1 := tmB h
    exact tm2 hf h1
def mNot (m : MT) : MT := fun env s => (m env s).bind fun b s => .ok (!b) s
theorem tmNot {G : Gam} {W : WX} {m : MT} {σ : Sg} {H : Hp} {Q : Bool → Hp → Prop} (h : tMT G W (mNot m) σ H Q) : tNot (tMT G W m) σ H Q := by
  obtain ⟨w, env, s, H0, k, er, p⟩ := h
  exact ⟨w, env, s, H0, k, er, (Post.bind p).imp (fun x s1 w1 H1 x1 k1 p1 => p1 w1 H1 (Ext.refl _ _) k1) fun _ _ _ z => z⟩
theorem jt_not {G : Gam} {X : Cx} {W : WX} {a : Expr} {pos : Pos} {m : MT} (h : PT X a (tMT G W m)) : PT X (.UnaryOp .Not a pos) (tMT G W (mNot m)) := PT.mono (pt_not h) fun _ _ _ q => tmNot q
def mAnd (m n : MT) : MT := fun env s => (m env s).bind fun b s => if b then n env s else .ok false s
def mOr (m n : MT) : MT := fun env s => (m env s).bind fun b s => if b then .ok true s else n env s
theorem PW.mono {X : Cx} {e : Expr} {t t' : TT} (h : PW X e t) (hi : ∀ σ H Q, t' σ H Q → t σ H Q) : PW X e t' := ⟨fun wh pins s σ H Q I q => h.run wh pins s σ H Q I (hi σ H Q q)⟩
theorem jw_and {G : Gam} {X : Cx} {W : WX} {a b : Expr} {rest : List Expr} {pos : Pos} {m n : MT} (h : PT X a (tMT G W m)) (h' : PW X (.BoolOp .And (b :: rest) pos) (tMT G W n)) : PW X (.BoolOp .And (a :: b :: rest) pos) (tMT G W (mAnd m n)) := by
  refine PW.mono (pw_and h h') fun σ H Q ⟨w, env, s, H0, k, er, p⟩ => ?_
  refine ⟨w, env, s, H0, k, er, (Post.bind p).imp (fun x s1 w1 H1 x1 k1 p1 => ?_) fun _ _ _ z => z⟩
  cases x with
  | true => exact iteT ⟨w1, env, s1, H0, k1, er.ext k x1, p1⟩
  | false => exact iteF (p1 w1 H1 (Ext.refl _ _) k1)
theorem jw_or {G : Gam} {X : Cx} {W : WX} {a b : Expr} {rest : List Expr} {pos : Pos} {m n : MT} (h : PT X a (tMT G W m)) (h' : PW X (.BoolOp .Or (b :: rest) pos) (tMT G W n)) : PW X (.BoolOp .Or (a :: b :: rest) pos) (tMT G W (mOr m n)) := by
  refine PW.mono (pw_or h h') fun σ H Q ⟨w, env, s, H0, k, er, p⟩ => ?_
  refine ⟨w, env, s, H0, k, er, (Post.bind p).imp (fun x s1 w1 H1 x1 k1 p1 => ?_) fun _ _ _ z => z⟩
  cases x with
  | true => exact iteT (p1 w1 H1 (Ext.refl _ _) k1)
  | false => exact iteF ⟨w1, env, s1, H0, k1, er.ext k x1, p1⟩
/-! ### and, or, not as values -/
def mAndV (m n : ME) : ME := fun env s => (m env s).bind fun e s => match e.get with | .bl true => n env s | .bl false => .ok (.v (.bl false)) s | _ => .fail
def mOrV (m n : ME) : ME := fun env s => (m env s).bind fun e s => match e.get with | .bl true => .ok (.v (.bl true)) s | .bl false => n env s | _ => .fail
def mNotV (m : ME) : ME := fun env s => (m env s).bind fun e s => match e.get with | .bl b => .ok (.v (.bl (!b))) s | _ => .fail
theorem je_and {G : Gam} {X : Cx} {W : WX} {a b : Expr} {rest : List Expr} {pos : Pos} {m n : ME} (h : PE X a (tM G W m)) (h' : PE X (.BoolOp .And (b :: rest) pos) (tM G W n)) : PE X (.BoolOp .And (a :: b :: rest) pos) (tM G W (mAndV m n)) := by
  refine PE.mono (pe_and h h') fun σ H Q ⟨w, env, s, H0, k, er, p⟩ => ?_
  refine ⟨w, env, s, H0, k, er, (Post.bind p).imp (fun x s1 w1 H1 x1 k1 p1 v1 r1 => ?_) fun _ _ _ z => z⟩
  split at p1
  · rename_i e
    exact ⟨true, r1.bl e, iteT ⟨w1, env, s1, H0, k1, er.ext k x1, p1⟩⟩
  · rename_i e
    exact ⟨false, r1.bl e, iteF (PQ.now p1 k1 (.v (.bl _)))⟩
  · exact p1.elim
theorem je_or {G : Gam} {X : Cx} {W : WX} {a b : Expr} {rest : List Expr} {pos : Pos} {m n : ME} (h : PE X a (tM G W m)) (h' : PE X (.BoolOp .Or (b :: rest) pos) (tM G W n)) : PE X (.BoolOp .Or (a :: b :: rest) pos) (tM G W (mOrV m n)) := by
  refine PE.mono (pe_or h h') fun σ H Q ⟨w, env, s, H0, k, er, p⟩ => ?_
  refine ⟨w, env, s, H0, k, er, (Post.bind p).imp (fun x s1 w1 H1 x1 k1 p1 v1 r1 => ?_) fun _ _ _ z => z⟩
  split at p1
  · rename_i e
    exact ⟨true, r1.bl e, iteT (PQ.now p1 k1 (.v (.bl _)))⟩
  · rename_i e
    exact ⟨false, r1.bl e, iteF ⟨w1, env, s1, H0, k1, er.ext k x1, p1⟩⟩
  · exact p1.elim
theorem je_not {G : Gam} {X : Cx} {W : WX} {a : Expr} {pos : Pos} {m : ME} (h : PE X a (tM G W m)) : PE X (.UnaryOp .Not a pos) (tM G W (mNotV m)) := by
  refine PE.mono (pe_not h) fun σ H Q ⟨w, env, s, H0, k, er, p⟩ => ?_
  refine ⟨w, env, s, H0, k, er, (Post.bind p).imp (fun x s1 w1 H1 x1 k1 p1 v1 r1 => ?_) fun _ _ _ z => z⟩
  split at p1
  · rename_i b e
    exact ⟨b, r1.bl e, PQ.now p1 k1 (.v (.bl _))⟩
  · exact p1.elim
def mIf (t : MT) (a b : ME) : ME := fun env s => (t env s).bind fun c s => if c then a env s else b env s
theorem je_if {G : Gam} {X : Cx} {W : WX} {c a b : Expr} {pos : Pos} {t : MT} {m n : ME} (h : PT X c (tMT G W t)) (ha : PE X a (tM G W m)) (hb : PE X b (tM G W n)) : PE X (.IfExp c a b pos) (tM G W (mIf t m n)) := by
  refine PE.mono (pe_ifExp h ha hb) fun σ H Q ⟨w, env, s, H0, k, er, p⟩ => ?_
  refine ⟨w, env, s, H0, k, er, (Post.bind p).imp (fun x s1 w1 H1 x1 k1 p1 => ?_) fun _ _ _ z => z⟩
  cases x with
  | true => exact iteT ⟨w1, env, s1, H0, k1, er.ext k x1, p1⟩
  | false => exact iteF ⟨w1, env, s1, H0, k1, er.ext k x1, p1⟩

/-! ### argument lists -/
def aNil : MA := fun _ s => .ok [] s
def aCons (m : ME) (n : MA) : MA := fun env s => (m env s).bind fun x s => (n env s).bind fun xs s => .ok (x :: xs) s
theorem ja_nil {G : Gam} {X : Cx} {W : WX} : PA X [] (tMA G W aNil) := PA.mono pa_nil fun σ H Q ⟨w, env, s, H0, k, er, p⟩ => p w H (Ext.refl _ _) k [] .nil
theorem tmCons {G : Gam} {W : WX} {m : ME} {n : MA} {σ : Sg} {H : Hp} {Q : List V → Hp → Prop} (h : tMA G W (aCons m n) σ H Q) : tCons (tM G W m) (tMA G W n) σ H Q := by
  obtain ⟨w, env, s, H0, k, er, p⟩ := h
  refine ⟨w, env, s, H0, k, er, (Post.bind p).imp (fun x s1 w1 H1 x1 k1 p1 v1 r1 => ?_) fun _ _ _ z => z⟩
  refine ⟨w1, env, s1, H0, k1, er.ext k x1, (Post.bind p1).imp (fun y s2 w2 H2 x2 k2 p2 v2 r2 => ?_) fun _ _ _ z => z⟩
  exact p2 w2 H2 (Ext.refl _ _) k2 _ (.cons (r1.ext k1 x2) r2)
theorem ja_cons {G : Gam} {X : Cx} {W : WX} {a : Expr} {es : List Expr} {m : ME} {n : MA} (h : PE X a (tM G W m)) (h' : PA X es (tMA G W n)) (hs : starEach (a :: es) X.env = (false, eval a X.env) :: starEach es X.env) : PA X (a :: es) (tMA G W (aCons m n)) :=
  PA.mono (pa_cons h h' hs) fun _ _ _ q => tmCons q
/-- the values, none of them borrowed -/
def strict : List EV → Option (List D)
  | [] => some []
  | .v d :: r => (strict r).map (d :: ·)
  | .b _ :: _ => none
theorem RpEL.strict {G : Gam} {w : Wr} {H : Hp} : ∀ {es : List EV} {vs : List V} {ds : List D}, RpEL G w H es vs → SR.strict es = some ds → RpL G w H ds vs
  | _, _, _, .nil, h => by cases h; exact .nil
  | _, _, _, .cons (.v q) t, h => by
    unfold SR.strict at h
    obtain ⟨ds, e, rfl⟩ := Option.map_eq_some_iff.mp h
    exact .cons q (t.strict e)
  | _, _, _, .cons (.b _ _ _ _) t, h => by cases h
def mLst (n : MA) : ME := fun env s => (n env s).bind fun es s => match strict es with | some ds => if ds.length ≤ sizeLine then .ok (.v (.lst ds)) s else .fail | none => .fail
def mTup (n : MA) : ME := fun env s => (n env s).bind fun es s => match strict es with | some ds => if ds.length ≤ sizeLine then .ok (.v (.tup ds)) s else .fail | none => .fail
theorem je_lst {G : Gam} {X : Cx} {W : WX} {es : List Expr} {pos : Pos} {n : MA} (h : PA X es (tMA G W n)) (hm : PE X (.List es pos) (tLst (tMA G W n))) : PE X (.List es pos) (tM G W (mLst n)) := by
  refine PE.mono hm fun σ H Q ⟨w, env, s, H0, k, er, p⟩ => ?_
  refine ⟨w, env, s, H0, k, er, (Post.bind p).imp (fun x s1 w1 H1 x1 k1 p1 v1 r1 => ?_) fun _ _ _ z => z⟩
  split at p1
  · rename_i ds e
    split at p1
    · rename_i hl
      have r := r1.strict e
      exact ⟨by rw [← r.length]; exact hl, fun a n => PQ.newL p1 k1 n r⟩
    · exact p1.elim
  · exact p1.elim
theorem je_tup {G : Gam} {X : Cx} {W : WX} {es : List Expr} {i : Nat} {pos : Pos} {n : MA} (hm : PE X (.Tuple es i pos) (tTup (tMA G W n))) : PE X (.Tuple es i pos) (tM G W (mTup n)) := by
  refine PE.mono hm fun σ H Q ⟨w, env, s, H0, k, er, p⟩ => ?_
  refine ⟨w, env, s, H0, k, er, (Post.bind p).imp (fun x s1 w1 H1 x1 k1 p1 v1 r1 => ?_) fun _ _ _ z => z⟩
  split at p1
  · rename_i ds e
    split at p1
    · rename_i hl
      have r := r1.strict e
      exact ⟨by rw [← r.length]; exact hl, fun a n => PQ.newT p1 k1 n r⟩
    · exact p1.elim
  · exact p1.elim

/-! ### calls -/
abbrev Fn := List D → S → Res D
/-- a def's promise, from its denotation -/
def spD (G : Gam) (n : Nat) (F : Fn) : Sp := fun vs H Q E => vs.length = n ∧ ∃ w s ds, Ok G w H s ∧ RpL G w H ds vs ∧ Post G w H (fun d _ w' H' => ∀ v, Rp G w' H' d v → Q v H') E (F ds s)
end SR

set_option Elab.async false
set_option linter.all false
set_option maxRecDepth 100000
set_option autoImplicit false
/-! Equality of data of any depth, dicts and objects too. -/
namespace SR
open PySem PySem.Spec PyProof.Rows
open L2 hiding St

/-! ### over values -/
inductive Kd (K : PySem.W.Frag) (H : Hp) : V → Nat → Prop
  | flat {x : V} : flatV x = true → Kd K H x 0
  | lst {a : Addr} {xs : List V} : SqL K H a xs → Kd K H (.ref a) 1
  | tup {a : Addr} {xs : List V} : SqT K H a xs → Kd K H (.ref a) 2
inductive VEq (K : PySem.W.Frag) (H : Hp) : Nat → V → V → Bool → Prop
  | flat {n : Nat} {x y : V} : flatV x = true → flatV y = true → VEq K H n x y (eqV x y)
  | same {n : Nat} {a : Addr} : VEq K H n (.ref a) (.ref a) true
  | mix {n : Nat} {x y : V} {i j : Nat} : Kd K H x i → Kd K H y j → i ≠ j → VEq K H (n + 1) x y false
  | lsts {n : Nat} {a b : Addr} {xs ys : List V} {bs : List Bool} : a ≠ b → SqL K H a xs → SqL K H b ys → xs.length = ys.length → bs.length = xs.length →
      (∀ (j : Nat) x y c, xs[j]? = some x → ys[j]? = some y → bs[j]? = some c → VEq K H n x y c) → VEq K H (n + 1) (.ref a) (.ref b) (bs.all id)
  | lens {n : Nat} {a b : Addr} {xs ys : List V} : a ≠ b → SqL K H a xs → SqL K H b ys → xs.length ≠ ys.length → VEq K H (n + 1) (.ref a) (.ref b) false
  | tups {n : Nat} {a b : Addr} {xs ys : List V} {bs : List Bool} : a ≠ b → SqT K H a xs → SqT K H b ys → bs.length = min xs.length ys.length →
      (∀ (j : Nat) x y c, xs[j]? = some x → ys[j]? = some y → bs[j]? = some c → VEq K H n x y c) → VEq K H (n + 1) (.ref a) (.ref b) (bs.all id && xs.length == ys.length)
  | dcts {n : Nat} {a b : Addr} {xs ys : List (Key × V)} {e : Key → Bool} : a ≠ b → H a = some (.dK xs) → H b = some (.dK ys) →
      (∀ k x y, (k, x) ∈ xs → valV ys k = some y → VEq K H n x y (e k)) → VEq K H (n + 1) (.ref a) (.ref b) (xs.length == ys.length && xs.all fun p => (valV ys p.1).isSome && e p.1)
theorem all_range : ∀ (bs : List Bool), ((List.range bs.length).all fun j => bs.getD j true) = bs.all id
  | [] => rfl
  | b :: bs => by
    rw [List.length_cons, List.range_succ_eq_map, List.all_cons, List.all_map, List.all_cons, ← all_range bs]
    rfl
section
variable {X : Cx} {pins : List (Addr × Obj)} {σ : Sg} {H : Hp} {s : Shared}
theorem relV_ref {a : Addr} {u : Value} (r : RelV (.ref a) u) : u = .ref a := r
theorem kd_mix (I : Inv X pins σ H s) {x y : V} {i j : Nat} {ux uy : Value} (hx : Kd X.K H x i) (hy : Kd X.K H y j) (hn : i ≠ j) (rx : RelV x ux) (ry : RelV y uy) {A : Around} (hu : A.units < cLine) : SeqAt.EqAt A s ux uy false := by
  cases hx with
  | flat fx =>
    cases hy with
    | flat fy => exact absurd rfl hn
    | lst h =>
      obtain ⟨its, _, p, _⟩ := I.list h
      cases relV_ref ry
      cases x with
      | non => cases rx; exact SeqAt.EqAt.none_list p.isList hu
      | bl b => cases rx; exact SeqAt.EqAt.bool_list b p.isList hu
      | int i => obtain ⟨t, rfl⟩ := rx; exact SeqAt.EqAt.int_list i t p.isList hu
      | str z => obtain ⟨t, rfl⟩ := rx; exact SeqAt.EqAt.str_list z t p.isList hu
      | _ => cases fx
    | tup h =>
      obtain ⟨its, _, p, _⟩ := I.tuple h
      cases relV_ref ry
      cases x with
      | non => cases rx; exact SeqAt.EqAt.none_tuple p hu
      | bl b => cases rx; exact SeqAt.EqAt.bool_tuple b p hu
      | int i => obtain ⟨t, rfl⟩ := rx; exact SeqAt.EqAt.int_tuple i t p hu
      | str z => obtain ⟨t, rfl⟩ := rx; exact SeqAt.EqAt.str_tuple z t p hu
      | _ => cases fx
  | lst h =>
    obtain ⟨its, _, p, _⟩ := I.list h
    cases relV_ref rx
    cases hy with
    | flat fy =>
      cases y with
      | non => cases ry; exact SeqAt.EqAt.list_none p.isList hu
      | bl b => cases ry; exact SeqAt.EqAt.list_bool b p.isList hu
      | int i => obtain ⟨t, rfl⟩ := ry; exact SeqAt.EqAt.list_int i t p.isList hu
      | str z => obtain ⟨t, rfl⟩ := ry; exact SeqAt.EqAt.list_str z t p.isList hu
      | _ => cases fy
    | lst h' => exact absurd rfl hn
    | tup h' =>
      obtain ⟨its', _, p', _⟩ := I.tuple h'
      cases relV_ref ry
      exact SeqAt.EqAt.list_tuple p.isList p' hu
  | tup h =>
    obtain ⟨its, _, p, _⟩ := I.tuple h
    cases relV_ref rx
    cases hy with
    | flat fy =>
      cases y with
      | non => cases ry; exact SeqAt.EqAt.tuple_none p hu
      | bl b => cases ry; exact SeqAt.EqAt.tuple_bool b p hu
      | int i => obtain ⟨t, rfl⟩ := ry; exact SeqAt.EqAt.tuple_int i t p hu
      | str z => obtain ⟨t, rfl⟩ := ry; exact SeqAt.EqAt.tuple_str z t p hu
      | _ => cases fy
    | lst h' =>
      obtain ⟨its', _, p', _⟩ := I.list h'
      cases relV_ref ry
      exact SeqAt.EqAt.tuple_list p p'.isList hu
    | tup h' => exact absurd rfl hn
theorem vals_at {xs : List V} {us : List Value} (r : Vals xs us) {j : Nat} (h : j < us.toArray.size) : ∃ x, xs[j]? = some x ∧ RelV x us.toArray[j] := by
  have hl := r.length
  have h1 : j < us.length := by simpa using h
  have h2 : j < xs.length := by omega
  refine ⟨xs[j], List.getElem?_eq_getElem h2, ?_⟩
  obtain ⟨u, e, ru⟩ := L2.Vals.get r (List.getElem?_eq_getElem h2)
  rw [List.getElem?_eq_getElem h1] at e
  cases e
  simpa using ru
theorem bs_at {bs : List Bool} {j : Nat} (h : j < bs.length) : bs[j]? = some (bs.getD j true) := by
  rw [List.getD_eq_getElem?_getD, List.getElem?_eq_getElem h]
  rfl
theorem kv_mem {κ : Type} {xs : List (κ × V)} {vs : List (κ × Value)} (r : KV xs vs) : ∀ {k : κ} {u : Value}, (k, u) ∈ vs → ∃ x, (k, x) ∈ xs ∧ RelV x u := by
  unfold KV at r
  induction r with
  | nil => intro k u h; cases h
  | @cons p q ps qs h t ih =>
    intro k u hm
    rcases List.mem_cons.mp hm with e | hm
    · subst e
      obtain ⟨h1, h2⟩ := h
      obtain ⟨k', x⟩ := p
      dsimp only at h1 h2
      subst h1
      exact ⟨x, List.mem_cons_self, h2⟩
    · obtain ⟨x, h1, h2⟩ := ih hm
      exact ⟨x, List.mem_cons_of_mem _ h1, h2⟩
theorem kv_all {κ : Type} [DecidableEq κ] {xs ys : List (κ × V)} {vs us : List (κ × Value)} (e : κ → Bool) (r' : KV ys us) (r : KV xs vs) : (vs.all fun p => (valueAt us p.1).isSome && e p.1) = (xs.all fun p => (valV ys p.1).isSome && e p.1) := by
  unfold KV at r
  induction r with
  | nil => rfl
  | @cons p q ps qs h t ih =>
    obtain ⟨h1, h2⟩ := h
    rw [List.all_cons, List.all_cons, ih, ← h1, (r'.val p.1).isSome_eq]
theorem VEq.tree (I : Inv X pins σ H s) {n : Nat} {x y : V} {b : Bool} (h : VEq X.K H n x y b) : ∀ {ux uy : Value}, RelV x ux → RelV y uy → PySem.W.EqTree X.prog X.w s n ux uy b := by
  induction h with
  | flat fx fy => exact fun rx ry => .leaf fun A _ => eqAt_V rx ry fx fy
  | same =>
    intro ux uy rx ry
    cases relV_ref rx
    cases relV_ref ry
    exact .same
  | mix hx hy hn => exact fun rx ry => .leaf fun A hu => kd_mix I hx hy hn rx ry (by omega)
  | @lsts n a b xs ys bs hn hx hy hl hb _ ih =>
    intro ux uy rx ry
    cases relV_ref rx
    cases relV_ref ry
    obtain ⟨us, r1, p1, _⟩ := I.list hx
    obtain ⟨ws, r2, p2, _⟩ := I.list hy
    have l1 := r1.length
    have l2 := r2.length
    have hz : us.toArray.size = bs.length := by simp; omega
    rw [← all_range bs, ← hz]
    refine .lists hn p1.isList p2.isList (by simp; omega) fun j h1 h2 => ?_
    obtain ⟨x, ex, rx⟩ := vals_at r1 h1
    obtain ⟨y, ey, ry⟩ := vals_at r2 h2
    exact ih j x y _ ex ey (bs_at (by omega)) rx ry
  | @lens n a b xs ys hn hx hy hl =>
    intro ux uy rx ry
    cases relV_ref rx
    cases relV_ref ry
    obtain ⟨us, r1, p1, _⟩ := I.list hx
    obtain ⟨ws, r2, p2, _⟩ := I.list hy
    have l1 := r1.length
    have l2 := r2.length
    refine .listsLen hn p1.isList p2.isList ?_
    simp
    omega
  | @tups n a b xs ys bs hn hx hy hb _ ih =>
    intro ux uy rx ry
    cases relV_ref rx
    cases relV_ref ry
    obtain ⟨us, r1, p1, _⟩ := I.tuple hx
    obtain ⟨ws, r2, p2, _⟩ := I.tuple hy
    have l1 := r1.length
    have l2 := r2.length
    have hz : min us.toArray.size ws.toArray.size = bs.length := by simp; omega
    have e : (xs.length == ys.length) = (us.toArray.size == ws.toArray.size) := by rw [l1, l2]; simp
    rw [← all_range bs, ← hz, e]
    refine .tuples hn p1 p2 fun j h1 h2 => ?_
    obtain ⟨x, ex, rx⟩ := vals_at r1 h1
    obtain ⟨y, ey, ry⟩ := vals_at r2 h2
    exact ih j x y _ ex ey (bs_at (by omega)) rx ry
  | @dcts n a b xs ys e hn hx hy _ ih =>
    intro ux uy rx ry
    cases relV_ref rx
    cases relV_ref ry
    obtain ⟨_, ya, va, ra, da⟩ := dk_of I.hok hx
    obtain ⟨_, yb, vb, rb, db⟩ := dk_of I.hok hy
    rw [← kv_all e rb ra, ra.length, rb.length]
    refine .dicts hn ya yb da db fun k v y hm hv => ?_
    obtain ⟨x, h1, h2⟩ := kv_mem ra hm
    have rr := rb.val k
    rw [hv] at rr
    cases ev : valV ys k with
    | none => rw [ev] at rr; exact rr.elim
    | some z =>
      rw [ev] at rr
      exact ih k x z h1 ev h2 rr
end

/-! ### the operator -/
inductive VTop (K : PySem.W.Frag) (H : Hp) : Nat → V → V → Bool → Prop
  | flat {n : Nat} {x y : V} : flatV x = true → flatV y = true → VTop K H n x y (eqV x y)
  | mix {n : Nat} {x y : V} {i j : Nat} : Kd K H x i → Kd K H y j → i ≠ j → VTop K H n x y false
  | lsts {n : Nat} {a b : Addr} {xs ys : List V} {bs : List Bool} : SqL K H a xs → SqL K H b ys → xs.length = ys.length → bs.length = xs.length →
      (∀ (j : Nat) x y c, xs[j]? = some x → ys[j]? = some y → bs[j]? = some c → VEq K H n x y c) → VTop K H n (.ref a) (.ref b) (bs.all id)
  | lens {n : Nat} {a b : Addr} {xs ys : List V} : SqL K H a xs → SqL K H b ys → xs.length ≠ ys.length → VTop K H n (.ref a) (.ref b) false
  | tups {n : Nat} {a b : Addr} {xs ys : List V} {bs : List Bool} : SqT K H a xs → SqT K H b ys → bs.length = min xs.length ys.length →
      (∀ (j : Nat) x y c, xs[j]? = some x → ys[j]? = some y → bs[j]? = some c → VEq K H n x y c) → VTop K H n (.ref a) (.ref b) (bs.all id && xs.length == ys.length)
  | dcts {n : Nat} {a b : Addr} {xs ys : List (Key × V)} {e : Key → Bool} : H a = some (.dK xs) → H b = some (.dK ys) →
      (∀ k x y, (k, x) ∈ xs → valV ys k = some y → VEq K H n x y (e k)) → VTop K H n (.ref a) (.ref b) (xs.length == ys.length && xs.all fun p => (valV ys p.1).isSome && e p.1)
section
variable {X : Cx} {pins : List (Addr × Obj)} {σ : Sg} {H : Hp} {s : Shared}
theorem kd_mixR (I : Inv X pins σ H s) {x y : V} {i j : Nat} {ux uy : Value} (hx : Kd X.K H x i) (hy : Kd X.K H y j) (hn : i ≠ j) (rx : RelV x ux) (ry : RelV y uy) {A : Around} (hu : A.units < cLine) : SeqAt.RcAt A s ux uy false := by
  cases hx with
  | flat fx =>
    cases hy with
    | flat fy => exact absurd rfl hn
    | lst h =>
      obtain ⟨its, _, p, _⟩ := I.list h
      cases relV_ref ry
      cases x with
      | non => cases rx; exact SeqAt.RcAt.none_list p.isList hu
      | bl b => cases rx; exact SeqAt.RcAt.bool_list b p.isList hu
      | int i => obtain ⟨t, rfl⟩ := rx; exact SeqAt.RcAt.int_list i t p.isList hu
      | str z => obtain ⟨t, rfl⟩ := rx; exact SeqAt.RcAt.str_list z t p.isList hu
      | _ => cases fx
    | tup h =>
      obtain ⟨its, _, p, _⟩ := I.tuple h
      cases relV_ref ry
      cases x with
      | non => cases rx; exact SeqAt.RcAt.none_tuple p hu
      | bl b => cases rx; exact SeqAt.RcAt.bool_tuple b p hu
      | int i => obtain ⟨t, rfl⟩ := rx; exact SeqAt.RcAt.int_tuple i t p hu
      | str z => obtain ⟨t, rfl⟩ := rx; exact SeqAt.RcAt.str_tuple z t p hu
      | _ => cases fx
  | lst h =>
    obtain ⟨its, _, p, _⟩ := I.list h
    cases relV_ref rx
    cases hy with
    | flat fy =>
      cases y with
      | non => cases ry; exact SeqAt.RcAt.list_none p.isList hu
      | bl b => cases ry; exact SeqAt.RcAt.list_bool b p.isList hu
      | int i => obtain ⟨t, rfl⟩ := ry; exact SeqAt.RcAt.list_int i t p.isList hu
      | str z => obtain ⟨t, rfl⟩ := ry; exact SeqAt.RcAt.list_str z t p.isList hu
      | _ => cases fy
    | lst h' => exact absurd rfl hn
    | tup h' =>
      obtain ⟨its', _, p', _⟩ := I.tuple h'
      cases relV_ref ry
      exact SeqAt.RcAt.list_tuple p.isList p' hu
  | tup h =>
    obtain ⟨its, _, p, _⟩ := I.tuple h
    cases relV_ref rx
    cases hy with
    | flat fy =>
      cases y with
      | non => cases ry; exact SeqAt.RcAt.tuple_none p hu
      | bl b => cases ry; exact SeqAt.RcAt.tuple_bool b p hu
      | int i => obtain ⟨t, rfl⟩ := ry; exact SeqAt.RcAt.tuple_int i t p hu
      | str z => obtain ⟨t, rfl⟩ := ry; exact SeqAt.RcAt.tuple_str z t p hu
      | _ => cases fy
    | lst h' =>
      obtain ⟨its', _, p', _⟩ := I.list h'
      cases relV_ref ry
      exact SeqAt.RcAt.tuple_list p p'.isList hu
    | tup h' => exact absurd rfl hn
theorem rc_flat {A : Around} {x y : V} {ux uy : Value} (rx : RelV x ux) (ry : RelV y uy) (fx : flatV x = true) (fy : flatV y = true) : SeqAt.RcAt A s ux uy (eqV x y) := by
  cases x with
  | non =>
    cases rx
    cases y with
    | non => cases ry; exact SeqAt.RcAt.none_none
    | bl b => cases ry; exact SeqAt.RcAt.none_bool b
    | int i => obtain ⟨t, rfl⟩ := ry; exact SeqAt.RcAt.none_int i t
    | str z => obtain ⟨t, rfl⟩ := ry; exact SeqAt.RcAt.none_str z t
    | _ => cases fy
  | bl a =>
    cases rx
    cases y with
    | non => cases ry; exact SeqAt.RcAt.bool_none a
    | bl b => cases ry; exact SeqAt.RcAt.bool_bool a b
    | int i => obtain ⟨t, rfl⟩ := ry; exact SeqAt.RcAt.bool_int a i t
    | str z => obtain ⟨t, rfl⟩ := ry; exact SeqAt.RcAt.bool_str a z t
    | _ => cases fy
  | int a =>
    obtain ⟨t', rfl⟩ := rx
    cases y with
    | non => cases ry; exact SeqAt.RcAt.int_none a t'
    | bl b => cases ry; exact SeqAt.RcAt.int_bool a t' b
    | int i => obtain ⟨t, rfl⟩ := ry; exact SeqAt.RcAt.int_int a t' i t
    | str z => obtain ⟨t, rfl⟩ := ry; exact SeqAt.RcAt.int_str a t' z t
    | _ => cases fy
  | str a =>
    obtain ⟨t', rfl⟩ := rx
    cases y with
    | non => cases ry; exact SeqAt.RcAt.str_none a t'
    | bl b => cases ry; exact SeqAt.RcAt.str_bool a t' b
    | int i => obtain ⟨t, rfl⟩ := ry; exact SeqAt.RcAt.str_int a t' i t
    | str z => obtain ⟨t, rfl⟩ := ry; exact SeqAt.RcAt.str_str a t' z t
    | _ => cases fy
  | _ => cases fx
theorem VTop.run (I : Inv X pins σ H s) {A : Around} {n : Nat} {x y : V} {b : Bool} {ux uy : Value} {E Q : Value → Shared → Prop} (h : VTop X.K H n x y b) (rx : RelV x ux) (ry : RelV y uy) (hu : A.units + (n + 1) < cLine) (q : Q (.bool b) s) : wpAny (model X.prog X.w) A (compareOp .Eq ux uy) Q E s := by
  cases h with
  | flat fx fy => exact rc_flat rx ry fx fy X.prog X.w E Q q
  | mix hx hy hn => exact kd_mixR I hx hy hn rx ry (by omega) X.prog X.w E Q q
  | @lsts a b xs ys bs hx hy hl hb ih =>
    cases relV_ref rx
    cases relV_ref ry
    obtain ⟨us, r1, p1, _⟩ := I.list hx
    obtain ⟨ws, r2, p2, _⟩ := I.list hy
    have l1 := r1.length
    have l2 := r2.length
    have hz : us.toArray.size = bs.length := by simp; omega
    rw [← all_range bs, ← hz] at q
    refine PySem.W.eq_listsT p1.isList p2.isList (by simp; omega) (fun j h1 h2 => ?_) hu q
    obtain ⟨x, ex, rx⟩ := vals_at r1 h1
    obtain ⟨y, ey, ry⟩ := vals_at r2 h2
    exact (ih j x y _ ex ey (bs_at (by omega))).tree I rx ry
  | @lens a b xs ys hx hy hl =>
    cases relV_ref rx
    cases relV_ref ry
    obtain ⟨us, r1, p1, _⟩ := I.list hx
    obtain ⟨ws, r2, p2, _⟩ := I.list hy
    have l1 := r1.length
    have l2 := r2.length
    refine SeqAt.eq_list_lengthsAt p1.isList p2.isList ?_ (by omega) q
    simp
    omega
  | @tups a b xs ys bs hx hy hb ih =>
    cases relV_ref rx
    cases relV_ref ry
    obtain ⟨us, r1, p1, _⟩ := I.tuple hx
    obtain ⟨ws, r2, p2, _⟩ := I.tuple hy
    have l1 := r1.length
    have l2 := r2.length
    have hz : min us.toArray.size ws.toArray.size = bs.length := by simp; omega
    have e : (xs.length == ys.length) = (us.toArray.size == ws.toArray.size) := by rw [l1, l2]; simp
    rw [← all_range bs, ← hz, e] at q
    refine PySem.W.eq_tuplesT p1 p2 (fun j h1 h2 => ?_) hu q
    obtain ⟨x, ex, rx⟩ := vals_at r1 h1
    obtain ⟨y, ey, ry⟩ := vals_at r2 h2
    exact (ih j x y _ ex ey (bs_at (by omega))).tree I rx ry
  | @dcts a b xs ys e hx hy ih =>
    cases relV_ref rx
    cases relV_ref ry
    obtain ⟨_, ya, va, ra, da⟩ := dk_of I.hok hx
    obtain ⟨_, yb, vb, rb, db⟩ := dk_of I.hok hy
    rw [← kv_all e rb ra, ra.length, rb.length] at q
    refine PySem.W.eq_dictsT ya yb da db (fun k v y hm hv => ?_) hu q
    obtain ⟨x, h1, h2⟩ := kv_mem ra hm
    have rr := rb.val k
    rw [hv] at rr
    cases ev : valV ys k with
    | none => rw [ev] at rr; exact rr.elim
    | some z =>
      rw [ev] at rr
      exact (ih k x z h1 ev).tree I h2 rr
end
def rEqT (K : PySem.W.Frag) : R2 := fun x y H Q => ∃ n b, n ≤ 60 ∧ VTop K H n x y b ∧ Q (.bl b) H
theorem op_eqT {X : Cx} (hu : X.A.units + 64 < cLine) : OpR X (compareOp .Eq) (rEqT X.K) := by
  intro pins s σ H x y v u Q I rx ry h
  obtain ⟨n, b, hn, h, q⟩ := h
  exact h.run I rx ry (by omega) ⟨.bl b, H, I, rfl, q⟩

/-! ### over data -/
/-- what an object holds -/
def rdO (s : S) : D → D
  | .obj i => match s.objs[i]? with
    | some (.lst ds) => .lst ds
    | some (.dct kvs) => .dct kvs
    | _ => .obj i
  | d => d
def eqFl : D → D → Option Bool
  | .non, .non => some true
  | .bl a, .bl b => some (a == b)
  | .bl a, .int b => some ((if a then 1 else 0) == b)
  | .int a, .bl b => some (a == (if b then 1 else 0))
  | .int a, .int b => some (a == b)
  | .str a, .str b => some (a == b)
  | .non, .bl _ => some false
  | .non, .int _ => some false
  | .non, .str _ => some false
  | .bl _, .non => some false
  | .bl _, .str _ => some false
  | .int _, .non => some false
  | .int _, .str _ => some false
  | .str _, .non => some false
  | .str _, .bl _ => some false
  | .str _, .int _ => some false
  | _, _ => none
def kdD : D → Option Nat
  | .non => some 0
  | .bl _ => some 0
  | .int _ => some 0
  | .str _ => some 0
  | .lst _ => some 1
  | .tup _ => some 2
  | _ => none
def deqL (f : D → D → Option Bool) : List D → List D → Option (List Bool)
  | x :: xs, y :: ys => match f x y, deqL f xs ys with
    | some b, some bs => some (b :: bs)
    | _, _ => none
  | _, _ => some []
def valD {κ : Type} [DecidableEq κ] (kvs : List (κ × D)) (k : κ) : Option D := (kvs.find? fun kv => decide (kv.1 = k)).map (·.2)
/-- the answers at the keys of xs -/
def deqK {κ : Type} [DecidableEq κ] (f : D → D → Option Bool) (ys : List (κ × D)) : List (κ × D) → Option (List (κ × Bool))
  | [] => some []
  | (k, x) :: r => match valD ys k, deqK f ys r with
    | none, some bs => some ((k, false) :: bs)
    | some y, some bs => (match f x y with | some b => some ((k, b) :: bs) | none => none)
    | _, none => none
def deq (s : S) : Nat → D → D → Option Bool
  | 0, _, _ => none
  | n + 1, x, y => match rdO s x, rdO s y with
    | .lst xs, .lst ys => if xs.length = ys.length then (deqL (deq s n) xs ys).map fun bs => bs.all id else some false
    | .tup xs, .tup ys => (deqL (deq s n) xs ys).map fun bs => bs.all id && xs.length == ys.length
    | .dct xs, .dct ys => (deqK (deq s n) ys xs).map fun bs => xs.length == ys.length && bs.all fun p => p.2
    | x', y' => match eqFl x' y' with
      | some b => some b
      | none => match kdD x', kdD y' with
        | some i, some j => if i ≠ j then some false else none
        | _, _ => none

section
variable {G : Gam} {w : Wr} {H : Hp} {s : S}
theorem Rp.rdL {x : D} {v : V} {xs : List D} (k : Ok G w H s) (r : Rp G w H x v) (e : rdO s x = .lst xs) : ∃ a vs, v = .ref a ∧ H a = some (.lst vs) ∧ RpL G w H xs vs := by
  cases r with
  | lst h n r => cases e; exact ⟨_, _, rfl, h, r⟩
  | @obj i a h =>
    unfold rdO at e
    dsimp only at e
    split at e
    · rename_i ds eo
      cases e
      obtain ⟨vs, h1, h2⟩ := k.objs i a _ h eo
      exact ⟨a, vs, rfl, h1, h2⟩
    · cases e
    · cases e
  | _ => cases e
theorem Rp.rdT {x : D} {v : V} {xs : List D} (k : Ok G w H s) (r : Rp G w H x v) (e : rdO s x = .tup xs) : ∃ a vs, v = .ref a ∧ SqT G.K H a vs ∧ RpL G w H xs vs := by
  cases r with
  | tup h n r => cases e; exact ⟨_, _, rfl, .inl (.inl h), r⟩
  | tupK h r => cases e; exact ⟨_, _, rfl, .inr h, r⟩
  | @obj i a h =>
    unfold rdO at e
    dsimp only at e
    split at e <;> cases e
  | _ => cases e
theorem Rp.rdD {x : D} {v : V} {xs : List (Key × D)} (k : Ok G w H s) (r : Rp G w H x v) (e : rdO s x = .dct xs) : ∃ a vs, v = .ref a ∧ H a = some (.dK vs) ∧ xs.map (·.1) = vs.map (·.1) ∧ RpL G w H (xs.map (·.2)) (vs.map (·.2)) := by
  cases r with
  | dct h n e' r => cases e; exact ⟨_, _, rfl, h, e', r⟩
  | @obj i a h =>
    unfold rdO at e
    dsimp only at e
    split at e
    · cases e
    · rename_i ds eo
      cases e
      obtain ⟨vs, h1, h2, h3⟩ := k.objs i a _ h eo
      exact ⟨a, vs, rfl, h1, h2, h3⟩
    · cases e
  | _ => cases e
/-- a flat datum -/
def flV : D → Option V
  | .non => some .non
  | .bl b => some (.bl b)
  | .int i => some (.int i)
  | .str x => some (.str x)
  | _ => none
theorem Rp.rdF {x : D} {v u : V} (r : Rp G w H x v) (e : flV (rdO s x) = some u) : v = u := by
  cases r with
  | @obj i a h =>
    unfold rdO at e
    dsimp only at e
    split at e <;> cases e
  | non => cases e; rfl
  | bl b => cases e; rfl
  | int b => cases e; rfl
  | str b => cases e; rfl
  | _ => cases e
theorem flV_flat {x : D} {u : V} (e : flV x = some u) : flatV u = true := by
  cases x <;> first | (cases e; rfl) | cases e
theorem eqFl_some {x y : D} {b : Bool} (h : eqFl x y = some b) : ∃ u v, flV x = some u ∧ flV y = some v ∧ eqV u v = b := by
  unfold eqFl at h
  split at h <;> first | (cases h; exact ⟨_, _, rfl, rfl, rfl⟩) | cases h
theorem eqV_refl {v : V} (h : flatV v = true) : eqV v v = true := by
  cases v with
  | non => rfl
  | bl b => simp [eqV]
  | int b => simp [eqV]
  | str b => simp [eqV]
  | _ => cases h
theorem kdD_some {x : D} {v : V} {i : Nat} (k : Ok G w H s) (r : Rp G w H x v) (h : kdD (rdO s x) = some i) : Kd G.K H v i := by
  cases e : rdO s x with
  | non => rw [e] at h; cases h; rw [r.rdF (s := s) (u := .non) (by rw [e]; rfl)]; exact .flat rfl
  | bl b => rw [e] at h; cases h; rw [r.rdF (s := s) (u := .bl b) (by rw [e]; rfl)]; exact .flat rfl
  | int b => rw [e] at h; cases h; rw [r.rdF (s := s) (u := .int b) (by rw [e]; rfl)]; exact .flat rfl
  | str b => rw [e] at h; cases h; rw [r.rdF (s := s) (u := .str b) (by rw [e]; rfl)]; exact .flat rfl
  | lst xs =>
    rw [e] at h; cases h
    obtain ⟨a, vs, rfl, h1, _⟩ := r.rdL k e
    exact .lst (.inl (.inl h1))
  | tup xs =>
    rw [e] at h; cases h
    obtain ⟨a, vs, rfl, h1, _⟩ := r.rdT k e
    exact .tup h1
  | _ => rw [e] at h; cases h
theorem deqL_len {f : D → D → Option Bool} : ∀ {xs ys : List D} {bs : List Bool}, deqL f xs ys = some bs → bs.length = min xs.length ys.length
  | [], _, _, h => by
    unfold deqL at h
    cases h
    simp
  | _ :: _, [], _, h => by
    unfold deqL at h
    cases h
    simp
  | x :: xs, y :: ys, bs, h => by
    unfold deqL at h
    split at h
    · rename_i b cs e1 e2
      cases h
      have := deqL_len e2
      simp only [List.length_cons, this]
      omega
    · cases h
theorem deqL_at {f : D → D → Option Bool} : ∀ {xs ys : List D} {bs : List Bool}, deqL f xs ys = some bs → ∀ {j : Nat} {x y : D} {c : Bool}, xs[j]? = some x → ys[j]? = some y → bs[j]? = some c → f x y = some c
  | [], _, _, h, j, x, y, c, e1, e2, e3 => by simp at e1
  | _ :: _, [], _, h, j, x, y, c, e1, e2, e3 => by simp at e2
  | x0 :: xs, y0 :: ys, bs, h, j, x, y, c, e1, e2, e3 => by
    unfold deqL at h
    split at h
    · rename_i b cs q1 q2
      cases h
      cases j with
      | zero => simp at e1 e2 e3; subst e1 e2 e3; exact q1
      | succ j => exact deqL_at q2 (by simpa using e1) (by simpa using e2) (by simpa using e3)
    · cases h
theorem valD_rel {vs : List (Key × V)} : ∀ {xs : List (Key × D)}, xs.map (·.1) = vs.map (·.1) → RpL G w H (xs.map (·.2)) (vs.map (·.2)) → ∀ k : Key, (∀ d, valD xs k = some d → ∃ v, valV vs k = some v ∧ Rp G w H d v) ∧ (valD xs k = none → valV vs k = none) := by
  induction vs with
  | nil =>
    intro xs e r k
    cases xs with
    | nil => exact ⟨fun d h => (by cases h), fun _ => rfl⟩
    | cons _ _ => cases e
  | cons p vs ih =>
    intro xs e r k
    cases xs with
    | nil => cases e
    | cons q xs =>
      simp only [List.map_cons, List.cons.injEq] at e
      obtain ⟨e1, e2⟩ := e
      cases r with
      | cons r1 r2 =>
        have := ih e2 r2 k
        by_cases hk : q.1 = k
        · have hp : p.1 = k := by rw [← e1]; exact hk
          have a1 : valD (q :: xs) k = some q.2 := by simp [valD, List.find?_cons, hk]
          have a2 : valV (p :: vs) k = some p.2 := valV_pos hp
          rw [a1, a2]
          exact ⟨fun d h => (by cases h; exact ⟨_, rfl, r1⟩), fun h => (by cases h)⟩
        · have hp : ¬ p.1 = k := by rw [← e1]; exact hk
          have a1 : valD (q :: xs) k = valD xs k := by simp [valD, List.find?_cons, hk]
          have a2 : valV (p :: vs) k = valV vs k := valV_neg hp
          rw [a1, a2]
          exact this
theorem rp_mem {vs : List (Key × V)} : ∀ {xs : List (Key × D)}, xs.map (·.1) = vs.map (·.1) → RpL G w H (xs.map (·.2)) (vs.map (·.2)) → ∀ {k : Key} {v : V}, (k, v) ∈ vs → ∃ d, (k, d) ∈ xs ∧ Rp G w H d v := by
  induction vs with
  | nil => intro xs e r k v h; cases h
  | cons p vs ih =>
    intro xs e r k v h
    cases xs with
    | nil => cases e
    | cons q xs =>
      simp only [List.map_cons, List.cons.injEq] at e
      obtain ⟨e1, e2⟩ := e
      cases r with
      | cons r1 r2 =>
        rcases List.mem_cons.mp h with h | h
        · subst h
          obtain ⟨k', d⟩ := q
          dsimp only at e1 r1
          subst e1
          exact ⟨d, List.mem_cons_self, r1⟩
        · obtain ⟨d, h1, h2⟩ := ih e2 r2 h
          exact ⟨d, List.mem_cons_of_mem _ h1, h2⟩
theorem deqK_keys {f : D → D → Option Bool} {ys : List (Key × D)} : ∀ {xs : List (Key × D)} {bs : List (Key × Bool)}, deqK f ys xs = some bs → bs.map (·.1) = xs.map (·.1)
  | [], _, h => by cases h; rfl
  | (k, x) :: xs, bs, h => by
    unfold deqK at h
    split at h
    · rename_i cs e1 e2
      cases h
      simp [deqK_keys e2]
    · rename_i y cs e1 e2
      split at h
      · cases h
        simp [deqK_keys e2]
      · cases h
    · cases h
/-- the answer at a key -/
def bAt (bs : List (Key × Bool)) (k : Key) : Bool := ((bs.find? fun p => decide (p.1 = k)).map (·.2)).getD true
theorem deqK_at {f : D → D → Option Bool} {ys : List (Key × D)} : ∀ {xs : List (Key × D)} {bs : List (Key × Bool)}, (xs.map (·.1)).Nodup → deqK f ys xs = some bs → ∀ {k : Key} {x y : D}, (k, x) ∈ xs → valD ys k = some y → f x y = some (bAt bs k)
  | [], _, _, h, k, x, y, hm, _ => by cases hm
  | (k0, x0) :: xs, bs, nd, h, k, x, y, hm, hy => by
    simp only [List.map_cons, List.nodup_cons] at nd
    unfold deqK at h
    rcases List.mem_cons.mp hm with e | hm'
    · cases e
      rw [hy] at h
      split at h
      · rename_i e1 _; cases e1
      · rename_i z cs e1 e2
        cases e1
        split at h
        · rename_i b eb
          cases h
          rw [eb]
          simp [bAt, List.find?_cons]
        · cases h
      · cases h
    · have hne : k0 ≠ k := fun e => nd.1 (e ▸ List.mem_map.mpr ⟨(k, x), hm', rfl⟩)
      split at h
      · rename_i cs e1 e2
        cases h
        have := deqK_at nd.2 e2 hm' hy
        rw [this]
        simp [bAt, List.find?_cons, hne]
      · rename_i z cs e1 e2
        split at h
        · cases h
          have := deqK_at nd.2 e2 hm' hy
          rw [this]
          simp [bAt, List.find?_cons, hne]
        · cases h
      · cases h
theorem deqK_all {f : D → D → Option Bool} {ys : List (Key × D)} {g : Key → Bool} : ∀ {xs : List (Key × D)} {bs : List (Key × Bool)}, deqK f ys xs = some bs → (∀ p ∈ bs, (valD ys p.1).isSome = true → g p.1 = p.2) → (xs.all fun p => (valD ys p.1).isSome && g p.1) = bs.all fun p => p.2
  | [], _, h, _ => by cases h; rfl
  | (k, x) :: xs, bs, h, hg => by
    unfold deqK at h
    split at h
    · rename_i cs e1 e2
      cases h
      rw [List.all_cons, List.all_cons, deqK_all e2 fun p hp => hg p (List.mem_cons_of_mem _ hp)]
      simp [e1]
    · rename_i y cs e1 e2
      split at h
      · cases h
        rw [List.all_cons, List.all_cons, deqK_all e2 fun p hp => hg p (List.mem_cons_of_mem _ hp)]
        have := hg _ List.mem_cons_self (by simp [e1])
        simp only [e1, Option.isSome_some, Bool.true_and] at this ⊢
        rw [this]
      · cases h
    · cases h
theorem bAt_mem : ∀ {bs : List (Key × Bool)}, (bs.map (·.1)).Nodup → ∀ p ∈ bs, bAt bs p.1 = p.2
  | [], _, p, h => by cases h
  | q :: bs, nd, p, h => by
    simp only [List.map_cons, List.nodup_cons] at nd
    rcases List.mem_cons.mp h with e | h
    · subst e
      simp [bAt, List.find?_cons]
    · have hne : q.1 ≠ p.1 := fun e => nd.1 (e ▸ List.mem_map.mpr ⟨p, h, rfl⟩)
      have := bAt_mem nd.2 p h
      simp only [bAt, List.find?_cons, decide_eq_false hne] at this ⊢
      exact this
theorem nodup_of {X : Cx} {pins : List (Addr × Obj)} {σ : Sg} {sh : Shared} {a : Addr} {vs : List (Key × V)} (I : Inv X pins σ H sh) (h : H a = some (.dK vs)) : (vs.map (·.1)).Nodup := by
  obtain ⟨_, _, us, r, o, es, ep, _, _, _, _, _, nd⟩ := dk_of I.hok h
  have : ∀ {vs : List (Key × V)} {us : List (Key × Value)}, KV vs us → vs.map (·.1) = us.map (·.1) := by
    intro vs us r
    unfold KV at r
    induction r with
    | nil => rfl
    | cons h t ih => simp only [List.map_cons, ih, h.1]
  rw [this r]
  exact nd
/-- what a heap keeps -/
structure HF (K : PySem.W.Frag) (H : Hp) : Prop where
  nd : ∀ (a : Addr) vs, H a = some (.dK vs) → (vs.map (·.1)).Nodup
  tt : ∀ (a : Addr) xs ys, SqT K H a xs → SqT K H a ys → xs = ys
  tl : ∀ (a : Addr) xs ys, SqT K H a xs → H a = some (.lst ys) → False
theorem hf_of {X : Cx} {pins : List (Addr × Obj)} {σ : Sg} {sh : Shared} (I : Inv X pins σ H sh) : HF X.K H := by
  refine ⟨fun a vs h => nodup_of I h, fun a xs ys h1 h2 => I.tuple_inj h1 h2, fun a xs ys h1 h2 => ?_⟩
  obtain ⟨_, _, ⟨o, e1, c1, _⟩, _⟩ := I.tuple h1
  obtain ⟨_, _, ⟨o', n, e2, c2, _⟩, _⟩ := I.list (.inl (.inl h2))
  rw [e1] at e2
  cases e2
  rw [c1] at c2
  injection c2 with z
  exact absurd z (by decide)
/-- the same value on both sides: equal -/
theorem deq_same (k : Ok G w H s) (hf : HF G.K H) :
    ∀ (n : Nat) {x y : D} {v : V} {b : Bool}, Rp G w H x v → Rp G w H y v → deq s n x y = some b → b = true
  | 0, _, _, _, _, _, _, h => by cases h
  | n + 1, x, y, v, b, rx, ry, h => by
    have ih := fun {x y : D} {v : V} {b : Bool} => deq_same k hf n (x := x) (y := y) (v := v) (b := b)
    have all : ∀ {xs ys : List D} {vs : List V} {bs : List Bool}, RpL G w H xs vs → RpL G w H ys vs → deqL (deq s n) xs ys = some bs → bs.all id = true := by
      intro xs
      induction xs with
      | nil => intro ys vs bs _ _ e; unfold deqL at e; cases e; rfl
      | cons x xs ihx =>
        intro ys vs bs r1 r2 e
        cases r1 with
        | cons a1 b1 =>
          cases r2 with
          | cons a2 b2 =>
            unfold deqL at e
            split at e
            · rename_i b cs e1 e2
              cases e
              have h1 := ih a1 a2 e1
              have h2 := ihx b1 b2 e2
              simp only [List.all_cons, h1, h2, id, Bool.and_self]
            · cases e
    unfold deq at h
    split at h
    · rename_i xs ys ex ey
      obtain ⟨a, vs, rfl, h1, r1⟩ := rx.rdL k ex
      obtain ⟨a', vs', e', h1', r1'⟩ := ry.rdL k ey
      cases e'
      rw [h1] at h1'
      cases h1'
      rw [if_pos (by rw [r1.length, r1'.length])] at h
      obtain ⟨bs, e, rfl⟩ := Option.map_eq_some_iff.mp h
      exact all r1 r1' e
    · rename_i xs ys ex ey
      obtain ⟨a, vs, rfl, h1, r1⟩ := rx.rdT k ex
      obtain ⟨a', vs', e', h1', r1'⟩ := ry.rdT k ey
      cases e'
      have ev := hf.tt a _ _ h1 h1'
      subst ev
      obtain ⟨bs, e, rfl⟩ := Option.map_eq_some_iff.mp h
      have l1 := r1.length
      have l2 := r1'.length
      rw [all r1 r1' e, l1, l2]
      simp
    · rename_i xs ys ex ey
      obtain ⟨a, vs, rfl, h1, k1, r1⟩ := rx.rdD k ex
      obtain ⟨a', vs', e', h1', k1', r1'⟩ := ry.rdD k ey
      cases e'
      rw [h1] at h1'
      cases h1'
      obtain ⟨bs, e, rfl⟩ := Option.map_eq_some_iff.mp h
      have hl : xs.length = ys.length := by
        have := congrArg List.length (k1.trans k1'.symm)
        simpa using this
      have nd := hf.nd a vs h1
      have ndx : (xs.map (·.1)).Nodup := by rw [k1]; exact nd
      have hb : ∀ p ∈ bs, p.2 = true := by
        intro p hp
        have hk : p.1 ∈ xs.map (·.1) := by rw [← deqK_keys e]; exact List.mem_map.mpr ⟨p, hp, rfl⟩
        obtain ⟨⟨kk, d⟩, hd1, hd2⟩ := List.mem_map.mp hk
        dsimp only at hd2
        subst hd2
        have hbm := bAt_mem (by rw [deqK_keys e]; exact ndx) p hp
        have v1 := (valD_rel k1 r1 p.1)
        have v2 := (valD_rel k1' r1' p.1)
        have find1 : ∀ {l : List (Key × D)} {k : Key} {d : D}, (l.map (·.1)).Nodup → (k, d) ∈ l → valD l k = some d := by
          intro l
          induction l with
          | nil => intro k d _ h; cases h
          | cons q l ihl =>
            intro k d nd h
            simp only [List.map_cons, List.nodup_cons] at nd
            rcases List.mem_cons.mp h with e | h
            · subst e; simp [valD, List.find?_cons]
            · have hne : q.1 ≠ k := fun e => nd.1 (e ▸ List.mem_map.mpr ⟨(k, d), h, rfl⟩)
              have := ihl nd.2 h
              simp only [valD, List.find?_cons, decide_eq_false hne] at this ⊢
              exact this
        obtain ⟨v, e1, rv⟩ := v1.1 d (find1 ndx hd1)
        cases e2 : valD ys p.1 with
        | none => rw [v2.2 e2] at e1; cases e1
        | some y =>
          obtain ⟨v', e3, rv'⟩ := v2.1 y e2
          rw [e1] at e3
          cases e3
          have := deqK_at ndx e hd1 e2
          rw [hbm] at this
          exact ih rv rv' this
      rw [List.all_eq_true.mpr hb, hl]
      simp
    · rename_i n1 n2 n3
      split at h
      · rename_i c ec
        cases h
        obtain ⟨u, v', e1, e2, e3⟩ := eqFl_some ec
        have q1 := rx.rdF e1
        have q2 := ry.rdF e2
        subst q1 q2
        rw [← e3]
        exact eqV_refl (flV_flat e1)
      · split at h
        · rename_i i j ei ej
          split at h
          · rename_i hij
            have a1 := kdD_some k rx ei
            have a2 := kdD_some k ry ej
            exfalso
            cases a1 with
            | flat f =>
              cases a2 with
              | flat _ => exact hij rfl
              | lst _ => cases f
              | tup _ => cases f
            | lst hl =>
              cases a2 with
              | flat f => cases f
              | lst _ => exact hij rfl
              | tup ht =>
                obtain ⟨xs, ex⟩ : ∃ xs, rdO s x = .lst xs := by
                  cases e : rdO s x <;> rw [e] at ei <;> first | exact ⟨_, rfl⟩ | cases ei
                obtain ⟨a, vs, e', h1, _⟩ := rx.rdL k ex
                cases e'
                exact hf.tl _ _ _ ht h1
            | tup ht =>
              cases a2 with
              | flat f => cases f
              | lst hl =>
                obtain ⟨xs, ex⟩ : ∃ xs, rdO s y = .lst xs := by
                  cases e : rdO s y <;> rw [e] at ej <;> first | exact ⟨_, rfl⟩ | cases ej
                obtain ⟨a, vs, e', h1, _⟩ := ry.rdL k ex
                cases e'
                exact hf.tl _ _ _ ht h1
              | tup _ => exact hij rfl
          · cases h
        · cases h
theorem dct_item {f : D → D → Option Bool} {a : Addr} {xs ys : List (Key × D)} {vs us : List (Key × V)} {bs : List (Key × Bool)} (hf : HF G.K H) (h1 : H a = some (.dK vs)) (k1 : xs.map (·.1) = vs.map (·.1)) (r1 : RpL G w H (xs.map (·.2)) (vs.map (·.2))) (k2 : ys.map (·.1) = us.map (·.1)) (r2 : RpL G w H (ys.map (·.2)) (us.map (·.2)))
    (e : deqK f ys xs = some bs) {kk : Key} {v u : V} (hv : (kk, v) ∈ vs) (hu : valV us kk = some u) : ∃ d d', Rp G w H d v ∧ Rp G w H d' u ∧ f d d' = some (bAt bs kk) := by
  obtain ⟨d, hd, rd⟩ := rp_mem k1 r1 hv
  have q := valD_rel k2 r2 kk
  cases ey : valD ys kk with
  | none => rw [q.2 ey] at hu; cases hu
  | some y =>
    obtain ⟨u', e1, ru⟩ := q.1 y ey
    rw [hu] at e1
    cases e1
    exact ⟨d, y, rd, ru, deqK_at (by rw [k1]; exact hf.nd a vs h1) e hd ey⟩
theorem dct_goal {f : D → D → Option Bool} {a : Addr} {xs ys : List (Key × D)} {vs us : List (Key × V)} {bs : List (Key × Bool)} (hf : HF G.K H) (h1 : H a = some (.dK vs)) (k1 : xs.map (·.1) = vs.map (·.1)) (k2 : ys.map (·.1) = us.map (·.1)) (r2 : RpL G w H (ys.map (·.2)) (us.map (·.2)))
    (e : deqK f ys xs = some bs) : (xs.length == ys.length && bs.all fun p => p.2) = (vs.length == us.length && vs.all fun p => (valV us p.1).isSome && bAt bs p.1) ∧ True := by
  have l1 : xs.length = vs.length := by simpa using congrArg List.length k1
  have l2 : ys.length = us.length := by simpa using congrArg List.length k2
  have nd : (xs.map (·.1)).Nodup := by rw [k1]; exact hf.nd a vs h1
  rw [← deqK_all (g := bAt bs) e fun p hp _ => bAt_mem (by rw [deqK_keys e]; exact nd) p hp, l1, l2]
  refine ⟨?_, trivial⟩
  congr 1
  have hs : ∀ k, (valD ys k).isSome = (valV us k).isSome := fun k => by
    have q := valD_rel k2 r2 k
    cases ey : valD ys k with
    | none => rw [q.2 ey]; rfl
    | some y => obtain ⟨u, e1, _⟩ := q.1 y ey; rw [e1]; rfl
  have gen : ∀ {xs : List (Key × D)} {vs : List (Key × V)}, xs.map (·.1) = vs.map (·.1) → (xs.all fun p => (valD ys p.1).isSome && bAt bs p.1) = vs.all fun p => (valV us p.1).isSome && bAt bs p.1 := by
    intro xs
    induction xs with
    | nil => intro vs e; cases vs with | nil => rfl | cons _ _ => cases e
    | cons x xs ih =>
      intro vs e
      cases vs with
      | nil => cases e
      | cons v vs =>
        simp only [List.map_cons, List.cons.injEq] at e
        rw [List.all_cons, List.all_cons, ih e.2, hs, e.1]
  exact gen k1
theorem deq_V (k : Ok G w H s) (hf : HF G.K H) : ∀ (n : Nat) {x y : D} {v u : V} {b : Bool}, Rp G w H x v → Rp G w H y u → deq s n x y = some b → VEq G.K H n v u b
  | 0, _, _, _, _, _, _, _, h => by cases h
  | n + 1, x, y, v, u, b, rx, ry, h => by
    by_cases hvu : ∃ a, v = .ref a ∧ u = .ref a
    · obtain ⟨a, rfl, rfl⟩ := hvu
      rw [deq_same k hf (n + 1) rx ry h]
      exact .same
    have hne : ∀ a b, v = .ref a → u = .ref b → a ≠ b := fun a b e1 e2 e => hvu ⟨a, e1, by rw [e2, e]⟩
    have ih := fun {x y : D} {v u : V} {b : Bool} => deq_V k hf n (x := x) (y := y) (v := v) (u := u) (b := b)
    unfold deq at h
    split at h
    · rename_i xs ys ex ey
      obtain ⟨a, vs, rfl, h1, r1⟩ := rx.rdL k ex
      obtain ⟨a', us, rfl, h1', r1'⟩ := ry.rdL k ey
      have l1 := r1.length
      have l2 := r1'.length
      split at h
      · rename_i hl
        obtain ⟨bs, e, rfl⟩ := Option.map_eq_some_iff.mp h
        have lb := deqL_len e
        refine .lsts (hne _ _ rfl rfl) (.inl (.inl h1)) (.inl (.inl h1')) (by omega) (by omega) fun j v u c ev eu ec => ?_
        obtain ⟨d, ed, rd⟩ := r1.getV ev
        obtain ⟨d', ed', rd'⟩ := r1'.getV eu
        exact ih rd rd' (deqL_at e ed ed' ec)
      · rename_i hl
        cases h
        exact .lens (hne _ _ rfl rfl) (.inl (.inl h1)) (.inl (.inl h1')) (by omega)
    · rename_i xs ys ex ey
      obtain ⟨a, vs, rfl, h1, r1⟩ := rx.rdT k ex
      obtain ⟨a', us, rfl, h1', r1'⟩ := ry.rdT k ey
      have l1 := r1.length
      have l2 := r1'.length
      obtain ⟨bs, e, rfl⟩ := Option.map_eq_some_iff.mp h
      have lb := deqL_len e
      rw [l1, l2]
      refine .tups (hne _ _ rfl rfl) h1 h1' (by omega) fun j v u c ev eu ec => ?_
      obtain ⟨d, ed, rd⟩ := r1.getV ev
      obtain ⟨d', ed', rd'⟩ := r1'.getV eu
      exact ih rd rd' (deqL_at e ed ed' ec)
    · rename_i xs ys ex ey
      obtain ⟨a, vs, rfl, h1, k1, r1⟩ := rx.rdD k ex
      obtain ⟨a', us, rfl, h1', k1', r1'⟩ := ry.rdD k ey
      obtain ⟨bs, e, rfl⟩ := Option.map_eq_some_iff.mp h
      obtain ⟨e1, e2⟩ := dct_goal hf h1 k1 k1' r1' e
      rw [e1]
      exact .dcts (hne _ _ rfl rfl) h1 h1' fun kk v u hv hu => by
        obtain ⟨d, d', rd, rd', ed⟩ := dct_item hf h1 k1 r1 k1' r1' e hv hu
        exact ih rd rd' ed
    · split at h
      · rename_i c ec
        cases h
        obtain ⟨u', v', e1, e2, e3⟩ := eqFl_some ec
        have q1 := rx.rdF e1
        have q2 := ry.rdF e2
        subst q1 q2
        rw [← e3]
        exact .flat (flV_flat e1) (flV_flat e2)
      · split at h
        · rename_i i j ei ej
          split at h
          · rename_i hij
            cases h
            exact .mix (kdD_some k rx ei) (kdD_some k ry ej) hij
          · cases h
        · cases h
theorem deq_top (k : Ok G w H s) (hf : HF G.K H) {n : Nat} {x y : D} {v u : V} {b : Bool} (rx : Rp G w H x v) (ry : Rp G w H y u) (h : deq s (n + 1) x y = some b) : VTop G.K H n v u b := by
    have ih := fun {x y : D} {v u : V} {b : Bool} => deq_V k hf n (x := x) (y := y) (v := v) (u := u) (b := b)
    unfold deq at h
    split at h
    · rename_i xs ys ex ey
      obtain ⟨a, vs, rfl, h1, r1⟩ := rx.rdL k ex
      obtain ⟨a', us, rfl, h1', r1'⟩ := ry.rdL k ey
      have l1 := r1.length
      have l2 := r1'.length
      split at h
      · rename_i hl
        obtain ⟨bs, e, rfl⟩ := Option.map_eq_some_iff.mp h
        have lb := deqL_len e
        refine .lsts (.inl (.inl h1)) (.inl (.inl h1')) (by omega) (by omega) fun j v u c ev eu ec => ?_
        obtain ⟨d, ed, rd⟩ := r1.getV ev
        obtain ⟨d', ed', rd'⟩ := r1'.getV eu
        exact ih rd rd' (deqL_at e ed ed' ec)
      · rename_i hl
        cases h
        exact .lens (.inl (.inl h1)) (.inl (.inl h1')) (by omega)
    · rename_i xs ys ex ey
      obtain ⟨a, vs, rfl, h1, r1⟩ := rx.rdT k ex
      obtain ⟨a', us, rfl, h1', r1'⟩ := ry.rdT k ey
      have l1 := r1.length
      have l2 := r1'.length
      obtain ⟨bs, e, rfl⟩ := Option.map_eq_some_iff.mp h
      have lb := deqL_len e
      rw [l1, l2]
      refine .tups h1 h1' (by omega) fun j v u c ev eu ec => ?_
      obtain ⟨d, ed, rd⟩ := r1.getV ev
      obtain ⟨d', ed', rd'⟩ := r1'.getV eu
      exact ih rd rd' (deqL_at e ed ed' ec)
    · rename_i xs ys ex ey
      obtain ⟨a, vs, rfl, h1, k1, r1⟩ := rx.rdD k ex
      obtain ⟨a', us, rfl, h1', k1', r1'⟩ := ry.rdD k ey
      obtain ⟨bs, e, rfl⟩ := Option.map_eq_some_iff.mp h
      obtain ⟨e1, e2⟩ := dct_goal hf h1 k1 k1' r1' e
      rw [e1]
      exact .dcts h1 h1' fun kk v u hv hu => by
        obtain ⟨d, d', rd, rd', ed⟩ := dct_item hf h1 k1 r1 k1' r1' e hv hu
        exact ih rd rd' ed
    · split at h
      · rename_i c ec
        cases h
        obtain ⟨u', v', e1, e2, e3⟩ := eqFl_some ec
        have q1 := rx.rdF e1
        have q2 := ry.rdF e2
        subst q1 q2
        rw [← e3]
        exact .flat (flV_flat e1) (flV_flat e2)
      · split at h
        · rename_i i j ei ej
          split at h
          · rename_i hij
            cases h
            exact .mix (kdD_some k rx ei) (kdD_some k ry ej) hij
          · cases h
        · cases h
end

/-- x == y -/
def eqD2 (x y : EV) (s : S) : Res EV := match x, y with
  | .v d, .v d' => (match deq s 60 d d' with
    | some b => .ok (.v (.bl b)) s
    | none => .fail)
  | _, _ => .fail
def rEqH (K : PySem.W.Frag) : R2 := fun x y H Q => HF K H → rEqT K x y H Q
theorem op_eqH {X : Cx} (hu : X.A.units + 64 < cLine) : OpR X (compareOp .Eq) (rEqH X.K) := fun pins s σ H x y v u Q I rx ry h => op_eqT hu pins s σ H x y v u Q I rx ry (h (hf_of I))
theorem opD_eq2 {G : Gam} : OpD G (rEqH G.K) eqD2 := by
  intro w H s x y vx vy Q W k rx ry h hf
  unfold eqD2 at h
  split at h
  · cases rx with
    | v rx =>
      cases ry with
      | v ry =>
        split at h
        · rename_i b e
          exact ⟨59, b, by omega, deq_top k hf rx ry e, h.now k (.v (.bl _))⟩
        · exact h.elim
  · exact h.elim
/-- data first, then the general way -/
def eqD3 (x y : EV) (s : S) : Res EV := match py? x.get, py? y.get with
  | some p, some q => .ok (.v (.bl (PyData.eqv p q != false))) s
  | _, _ => eqD2 x y s
theorem opD_eq3 {G : Gam} : OpD G (rOr (rEqD G.K) (rEqH G.K)) eqD3 := by
  intro w H s x y vx vy Q W k rx ry h
  unfold eqD3 at h
  split at h
  · rename_i p q ex ey
    exact .inl (opD_eq w H s x y vx vy Q W k rx ry (by unfold eqD; rw [ex, ey]; exact h))
  · exact .inr (opD_eq2 w H s x y vx vy Q W k rx ry h)
end SR

set_option Elab.async false
set_option linter.all false
set_option maxRecDepth 100000
set_option autoImplicit false
/-! Calls, methods, slices, walks, comprehensions. -/
namespace SR
open PySem PySem.Spec PyProof.Rows
open L2 hiding St

/-! ### own defs -/
def mCall (n : Nat) (F : Fn) (ma : MA) : ME := fun env s => (ma env s).bind fun es s => match strict es with
  | some ds => if ds.length = n then (F ds s).bind fun d s => .ok (.v d) s else .fail
  | none => .fail
theorem call_end {G : Gam} {w : Wr} {H : Hp} {s : S} {n : Nat} {F : Fn} {es : List EV} {vs : List V} {Q : VK} {W : XW} (k : Ok G w H s) (r : RpEL G w H es vs)
    (p : PQ G w H Q W (match strict es with | some ds => if ds.length = n then (F ds s).bind fun d s => .ok (.v d) s else .fail | none => .fail)) : spD G n F vs H Q W := by
  split at p
  · rename_i ds e
    split at p
    · rename_i hl
      have r1 := r.strict e
      refine ⟨by rw [← r1.length]; exact hl, w, s, ds, k, r1, (Post.bind p).imp (fun d s1 w1 H1 x1 k1 p1 v rv => ?_) fun _ _ _ z => z⟩
      exact PQ.now p1 k1 (.v rv)
    · exact p.elim
  · exact p.elim
/-- a def of the module, known by its name -/
def MkOk (P : Program) (w : World) (K : PySem.W.Frag) (mg : Str → Option Value) (base : Heap) (G : Gam) (k : Nat) (x : Str) (C fI : Addr) (fd : FuncData) (ps : List Str) (n : Nat) (F : Fn) : Prop :=
  ∃ (j : Nat) (sp : Sp), mg x = some (.ref C) ∧ OexC K C ∧ PySem.W.findIn K (.ref C) "__init__" = some (some (.ref fI)) ∧ PySem.W.typeIn K (.ref fI) = some (.type "function") ∧ j + 1 ≤ k ∧ FnOk P w K mg base (L2.CX P w) j fI fd ps sp ∧
    ∀ vs H Q E, spD G n F vs H Q E → vs.length ≤ 1000 ∧ ∀ a, H a = none → sp (.ref a :: vs) (upd H a (exo a C none)) (fun v H2 => v = .non ∧ Q (.ref a) H2) (fun _ _ _ => False)
theorem MkOk.mono {P : Program} {w : World} {K : PySem.W.Frag} {mg : Str → Option Value} {base : Heap} {G : Gam} {k k' : Nat} {x : Str} {C fI : Addr} {fd : FuncData} {ps : List Str} {n : Nat} {F : Fn} (h : MkOk P w K mg base G k x C fI fd ps n F) (hk : k ≤ k') : MkOk P w K mg base G k' x C fI fd ps n F := by
  obtain ⟨j, sp, h1, h2, h3, h4, h5, h6, h7⟩ := h
  exact ⟨j, sp, h1, h2, h3, h4, Nat.le_trans h5 hk, h6, h7⟩
theorem passN {X : Cx} : Passes (L2.CX X.prog X.w) X (fun _ _ _ => False) := by
  intro pins σ H s e s' I h
  obtain ⟨_, _, _, _, _, _, _, _, _, _, _, _, z⟩ := h
  exact z.elim
structure FnAt (X : Cx) (G : Gam) (k : Nat) (x : Str) (n : Nat) (F : Fn) : Prop where
  ex : (∃ C fI fd ps, MkOk X.prog X.w X.K X.mg X.base G k x C fI fd ps n F ∧ Binds X.K fd ps []) ∨ ∃ f fd ps, X.mg x = some (.ref f) ∧ PySem.W.keepIn X.K (.ref f) = true ∧ FnOk X.prog X.w X.K X.mg X.base (L2.CX X.prog X.w) k f fd ps (spD G n F) ∧ Binds X.K fd ps []
theorem je_call {G : Gam} {X : Cx} {W : WX} {k : Nat} {x : Str} {n : Nat} {F : Fn} {p pos : Pos} {e : Expr} {es : List Expr} {ma : MA} (hf : FnAt X G k x n F) (hr : Room k X.A) (hg : Gl X x) (tk : Takes X W) (ha : PA X (e :: es) (tMA G W ma)) (hdb : (x == ("__debug__" : Str)) = false)
    (he : starEach (e :: es) X.env = (false, eval e X.env) :: starEach es X.env) (hpl : (backTo pos (starEach es X.env)).any (·.1) = false) : PE X (.Call (.Name x p) (e :: es) [] pos) (tM G W (mCall n F ma)) := by
  rcases hf.ex with ⟨C, fI, fd, ps, ⟨j, sp, hm, T, iC, tI, hj, F1, hsp⟩, hb⟩ | ⟨f, fd, ps, hm, hk, hF, hb⟩
  · refine PE.mono (pe_mkv T iC tI F1 (hr.mono hj) hb passN hg hm ha hdb he hpl) fun σ H Q ⟨w, env, s, H0, k, er, p⟩ => ?_
    exact ⟨w, env, s, H0, k, er, (Post.bind p).imp (fun es s1 w1 H1 x1 k1 p1 vs r1 => hsp _ _ _ _ (call_end k1 r1 p1)) fun _ _ _ z => z⟩
  refine PE.mono (pe_callSD (E := fun σ => WE W σ) hF hr hg hm hk hb .nil (fun σ => passAt tk σ) ha hdb he hpl) fun σ H Q ⟨w, env, s, H0, k, er, p⟩ => ?_
  refine ⟨w, env, s, H0, k, er, (Post.bind p).imp (fun es s1 w1 H1 x1 k1 p1 vs r1 => ?_) fun _ _ _ z => z⟩
  show spD G n F (vs ++ []) H1 Q _
  rw [List.append_nil]
  exact call_end k1 r1 p1
theorem je_call0 {G : Gam} {X : Cx} {W : WX} {k : Nat} {x : Str} {F : Fn} {p pos : Pos} (hf : FnAt X G k x 0 F) (hr : Room k X.A) (hg : Gl X x) (tk : Takes X W) (hdb : (x == ("__debug__" : Str)) = false) : PE X (.Call (.Name x p) [] [] pos) (tM G W (mCall 0 F aNil)) := by
  rcases hf.ex with ⟨C, fI, fd, ps, ⟨j, sp, hm, T, iC, tI, hj, F1, hsp⟩, hb⟩ | ⟨f, fd, ps, hm, hk, hF, hb⟩
  · refine PE.mono (pe_mkv0 T iC tI F1 (hr.mono hj) hb passN hg hm hdb) fun σ H Q ⟨w, env, s, H0, k, er, p⟩ => ?_
    exact hsp _ _ _ _ (call_end (es := []) k .nil p)
  have hp : PE X (.Call (.Name x p) [] [] pos) (fun σ H Q => spD G 0 F [] H Q (WE W σ)) := by
    refine ⟨fun pins s σ H Q I h => ?_⟩
    refine wpAny_Call_Name_kw (ld_glob I hg hm ?_ hdb)
    exact PySem.W.callWith_K0 I.kIn hk (run_fnSD (E := fun σ => WE W σ) (dvs := []) (vs := []) (us := []) hF hr hb .nil (passAt tk σ) I .nil h)
  refine PE.mono hp fun σ H Q ⟨w, env, s, H0, k, er, p⟩ => ?_
  exact call_end (es := []) k .nil p

/-! ### own defs, called by keywords alone -/
def pick {α : Type} (ix : List Nat) (xs : List α) : List α := ix.filterMap fun i => xs[i]?
theorem RpL.pick {G : Gam} {w : Wr} {H : Hp} {ds : List D} {vs : List V} (r : RpL G w H ds vs) : ∀ ix : List Nat, RpL G w H (SR.pick ix ds) (SR.pick ix vs)
  | [] => .nil
  | i :: ix => by
    unfold SR.pick
    rw [List.filterMap_cons, List.filterMap_cons]
    cases e : ds[i]? with
    | none =>
      have h1 : ds.length ≤ i := List.getElem?_eq_none_iff.mp e
      have e2 : vs[i]? = none := List.getElem?_eq_none_iff.mpr (by rw [← r.length]; exact h1)
      rw [e2]
      exact r.pick ix
    | some d =>
      obtain ⟨v, e2, rv⟩ := r.get e
      rw [e2]
      exact .cons rv (r.pick ix)
theorem Vals.pick {vs : List V} {us : List Value} (r : Vals vs us) : ∀ ix : List Nat, Vals (SR.pick ix vs) (SR.pick ix us)
  | [] => .nil
  | i :: ix => by
    unfold SR.pick
    rw [List.filterMap_cons, List.filterMap_cons]
    cases e : vs[i]? with
    | none =>
      rw [L2.Vals.none_of r e]
      exact Vals.pick r ix
    | some v =>
      obtain ⟨u, e2, rv⟩ := L2.Vals.get r e
      rw [e2]
      exact .cons rv (Vals.pick r ix)
structure FnKt (X : Cx) (G : Gam) (k : Nat) (x : Str) (ks : List Str) (n : Nat) (F : Fn) : Prop where
  ex : (∃ C fI fd ps ix m F0, MkOk X.prog X.w X.K X.mg X.base G k x C fI fd ps m F0 ∧ (∀ ws : List Value, ws.length = n → (pick ix ws).length = m) ∧ (∀ (s : Shared) (ws : List Value) (a : Addr), ws.length = n → BindsTo s fd ⟨[.ref a], ks.zip ws⟩ (ps.zip (.ref a :: pick ix ws))) ∧ F = fun ds s => F0 (pick ix ds) s) ∨
    ∃ f fd ps ix m F0, X.mg x = some (.ref f) ∧ PySem.W.keepIn X.K (.ref f) = true ∧ FnOk X.prog X.w X.K X.mg X.base (L2.CX X.prog X.w) k f fd ps (spD G m F0) ∧ (∀ ws : List Value, ws.length = n → (pick ix ws).length = m) ∧ (∀ (s : Shared) (ws : List Value), ws.length = n → BindsTo s fd ⟨[], ks.zip ws⟩ (ps.zip (pick ix ws))) ∧ F = fun ds s => F0 (pick ix ds) s
theorem je_callk {G : Gam} {X : Cx} {W : WX} {k : Nat} {x : Str} {ks : List Str} {n : Nat} {F : Fn} {p pos : Pos} {kws : List Keyword} {ma : MA} (hf : FnKt X G k x ks n F) (hr : Room k X.A) (hg : Gl X x) (tk : Takes X W) (ha : PK X kws (tMA G W ma)) (hdb : (x == ("__debug__" : Str)) = false)
    (hks : kws.map (·.arg) = ks.map some) : PE X (.Call (.Name x p) [] kws pos) (tM G W (mCall n F ma)) := by
  have names : ∀ (kws : List Keyword) (ks : List Str), kws.map (·.arg) = ks.map some → (backToKw pos (keywordEach kws X.env)).all (·.1.isSome) = true ∧ (backToKw pos (keywordEach kws X.env)).filterMap (·.1) = ks ∧ (backToKw pos (keywordEach kws X.env)).any (·.1.isNone) = false := by
    intro kws
    induction kws with
    | nil => intro ks h; cases ks with | nil => exact ⟨rfl, rfl, rfl⟩ | cons _ _ => cases h
    | cons kw kws ih =>
      intro ks h
      cases ks with
      | nil => cases h
      | cons y ks =>
        obtain ⟨a, v, q⟩ := kw
        simp only [List.map_cons, List.cons.injEq] at h
        obtain ⟨h1, h2⟩ := h
        subst h1
        obtain ⟨i1, i2, i3⟩ := ih ks h2
        refine ⟨?_, ?_, ?_⟩
        · show (true && (backToKw pos (keywordEach kws X.env)).all (·.1.isSome)) = true
          rw [i1]; rfl
        · show y :: (backToKw pos (keywordEach kws X.env)).filterMap (·.1) = y :: ks
          rw [i2]
        · show (false || (backToKw pos (keywordEach kws X.env)).any (·.1.isNone)) = false
          rw [i3]; rfl
  obtain ⟨i1, i2, i3⟩ := names kws ks hks
  have lens : ∀ {α β : Type} (xs : List α) (ys : List β) (ix : List Nat), xs.length = ys.length → (pick ix xs).length = (pick ix ys).length := by
    intro α β xs ys ix h
    induction ix with
    | nil => rfl
    | cons i ix ih =>
      unfold pick at ih ⊢
      rw [List.filterMap_cons, List.filterMap_cons]
      by_cases hi : i < xs.length
      · rw [List.getElem?_eq_getElem hi, List.getElem?_eq_getElem (show i < ys.length by omega)]
        simp only [List.length_cons, ih]
      · rw [List.getElem?_eq_none (by omega), List.getElem?_eq_none (show ys.length ≤ i by omega)]
        exact ih
  rcases hf.ex with ⟨C, fI, fd, ps, ix, m, F0, ⟨j, sp, hm, T, iC, tI, hj, F1, hsp⟩, hbl, hb, rfl⟩ | ⟨f, fd, ps, ix, m, F0, hm, hk, hF, hbl, hb, rfl⟩
  · have hp : PE X (.Call (.Name x p) [] kws pos) (fun σ H Q => tMA G W ma σ H fun zs H1 => zs.length = n ∧ spD G m F0 (pick ix zs) H1 Q (WE W σ)) := by
      refine ⟨fun pins s σ H Q I h => ?_⟩
      refine wpAny_Call_Name_kw (ld_glob I hg hm ?_ hdb)
      refine PySem.W.callWith_KW0 (h₀ := X.base) I.ok.mod.kin T.kC i1 (thn (ha.run pos pins s σ H _ I h) fun ws s2 ⟨zs, H2, I2, rz, hn, q2⟩ => ⟨I2.kIn, ?_⟩) (by rw [i3]; rfl)
      rw [i2]
      have hws : ws.length = n := by rw [← rz.length]; exact hn
      exact mkv_runK T iC tI F1 (hr.mono hj) (fun s a => hb s ws a hws) passN I2 (Vals.pick rz ix) (hsp _ _ _ _ q2).2
    refine PE.mono hp fun σ H Q ⟨w, env, s, H0, k, er, p⟩ => ?_
    refine ⟨w, env, s, H0, k, er, (Post.bind p).imp (fun es s1 w1 H1 x1 k1 p1 vs r1 => ?_) fun _ _ _ z => z⟩
    split at p1
    · rename_i ds e
      split at p1
      · rename_i hl
        have r := r1.strict e
        have hv : vs.length = n := by rw [← r.length]; exact hl
        refine ⟨hv, ?_, w1, s1, pick ix ds, k1, r.pick ix, (Post.bind p1).imp (fun d s2 w2 H2 x2 k2 p2 v rv => PQ.now p2 k2 (.v rv)) fun _ _ _ z => z⟩
        rw [lens vs (List.replicate n Value.none) ix (by simpa using hv)]
        exact hbl _ (by simp)
      · exact p1.elim
    · exact p1.elim
  have hp : PE X (.Call (.Name x p) [] kws pos) (fun σ H Q => tMA G W ma σ H fun zs H1 => zs.length = n ∧ spD G m F0 (pick ix zs) H1 Q (WE W σ)) := by
    refine ⟨fun pins s σ H Q I h => ?_⟩
    refine wpAny_Call_Name_kw (ld_glob I hg hm ?_ hdb)
    refine PySem.W.callWith_KW0 (h₀ := X.base) I.ok.mod.kin hk i1 (thn (ha.run pos pins s σ H _ I h) fun ws s2 ⟨zs, H2, I2, rz, hn, q2⟩ => ⟨I2.kIn, ?_⟩) (by rw [i3]; rfl)
    rw [i2]
    have hws : ws.length = n := by rw [← rz.length]; exact hn
    have b2 := hb s2 ws hws
    refine wpAny_call (codeAny_mono (hF.run X.A X.stack s2 H2 ⟨[], ks.zip ws⟩ (pick ix ws) (pick ix zs) Q (WE W σ) hr I2.env0 b2 (Vals.pick rz ix) q2) fun r s' hq => ?_)
    cases r with
    | error e => exact passAt tk σ pins H2 s2 e s' I2 hq
    | ok fl =>
      cases fl with
      | ret u => exact I2.after hq
      | next => exact False.elim hq
      | brk => exact False.elim hq
      | cont => exact False.elim hq
  refine PE.mono hp fun σ H Q ⟨w, env, s, H0, k, er, p⟩ => ?_
  refine ⟨w, env, s, H0, k, er, (Post.bind p).imp (fun es s1 w1 H1 x1 k1 p1 vs r1 => ?_) fun _ _ _ z => z⟩
  split at p1
  · rename_i ds e
    split at p1
    · rename_i hl
      have r := r1.strict e
      have hv : vs.length = n := by rw [← r.length]; exact hl
      refine ⟨hv, ?_, w1, s1, pick ix ds, k1, r.pick ix, (Post.bind p1).imp (fun d s2 w2 H2 x2 k2 p2 v rv => ?_) fun _ _ _ z => z⟩
      · have := hbl (List.replicate n .none) (by simp)
        have q : ∀ {α β : Type} (xs : List α) (ys : List β) (ix : List Nat), xs.length = ys.length → (pick ix xs).length = (pick ix ys).length := by
          intro α β xs ys ix h
          induction ix with
          | nil => rfl
          | cons i ix ih =>
            unfold pick at ih ⊢
            rw [List.filterMap_cons, List.filterMap_cons]
            by_cases hi : i < xs.length
            · rw [List.getElem?_eq_getElem hi, List.getElem?_eq_getElem (show i < ys.length by omega)]
              simp only [List.length_cons, ih]
            · rw [List.getElem?_eq_none (by omega), List.getElem?_eq_none (show ys.length ≤ i by omega)]
              exact ih
        rw [q vs (List.replicate n Value.none) ix (by simp [hv])]
        exact this
      · exact PQ.now p2 k2 (.v rv)
    · exact p1.elim
  · exact p1.elim
theorem jk_nil {G : Gam} {X : Cx} {W : WX} : PK X [] (tMA G W aNil) := ⟨fun pos pins s σ H Q I ⟨w, env, s', H0, k, er, p⟩ => pk_nil.run pos pins s σ H Q I (p w H (Ext.refl _ _) k [] .nil)⟩
theorem jk_cons {G : Gam} {X : Cx} {W : WX} {nm : Option Str} {e : Expr} {kpos : Pos} {kws : List Keyword} {m : ME} {n : MA} (h : PE X e (tM G W m)) (h' : PK X kws (tMA G W n)) : PK X (⟨nm, e, kpos⟩ :: kws) (tMA G W (aCons m n)) :=
  ⟨fun pos pins s σ H Q I q => (pk_cons h h').run pos pins s σ H Q I (tmCons q)⟩

/-! ### built-ins by name -/
abbrev RL := List V → Hp → VK → Prop
def CallD (G : Gam) (r : RL) (f : List EV → S → Res EV) : Prop := ∀ (w : Wr) (H : Hp) (s : S) (es : List EV) (vs : List V) (Q : VK) (W : XW), Ok G w H s → RpEL G w H es vs → PQ G w H Q W (f es s) → r vs H Q
def mB (f : List EV → S → Res EV) (ma : MA) : ME := fun env s => (ma env s).bind fun es s => f es s
theorem tmB1 {G : Gam} {W : WX} {f : List EV → S → Res EV} {r : RL} {ma : MA} (hf : CallD G r f) {σ : Sg} {H : Hp} {Q : VK} (h : tM G W (mB f ma) σ H Q) : tCB r (tMA G W ma) σ H Q := by
  obtain ⟨w, env, s, H0, k, er, p⟩ := h
  exact ⟨w, env, s, H0, k, er, (Post.bind p).imp (fun es s1 w1 H1 x1 k1 p1 vs r1 => hf w1 H1 s1 es vs Q _ k1 r1 p1) fun _ _ _ z => z⟩
theorem je_blt {G : Gam} {X : Cx} {W : WX} {x : Str} {p pos : Pos} {e : Expr} {es : List Expr} {id : String} {r : RL} {f : List EV → S → Res EV} {ma : MA} (hc : CallR X (.builtin id) r) (hf : CallD G r f) (hg : Gl X x) (hm : X.mg x = none) (hv : bootBuiltins x = some (.builtin id))
    (ha : PA X (e :: es) (tMA G W ma)) (hn : x ≠ "__name__") (hdb : (x == ("__debug__" : Str)) = false) (he : starEach (e :: es) X.env = (false, eval e X.env) :: starEach es X.env) (hpl : (backTo pos (starEach es X.env)).any (·.1) = false) :
    PE X (.Call (.Name x p) (e :: es) [] pos) (tM G W (mB f ma)) := PE.mono (pe_callB hc hg hm hv ha hn hdb he hpl) fun _ _ _ h => tmB1 hf h
theorem je_bty {G : Gam} {X : Cx} {W : WX} {x : Str} {p pos : Pos} {e : Expr} {es : List Expr} {T : String} {r : RL} {f : List EV → S → Res EV} {ma : MA} (hc : CallR X (.type T) r) (hf : CallD G r f) (hg : Gl X x) (hm : X.mg x = none) (hv : bootBuiltins x = some (.type T))
    (ha : PA X (e :: es) (tMA G W ma)) (hn : x ≠ "__name__") (hdb : (x == ("__debug__" : Str)) = false) (he : starEach (e :: es) X.env = (false, eval e X.env) :: starEach es X.env) (hpl : (backTo pos (starEach es X.env)).any (·.1) = false) :
    PE X (.Call (.Name x p) (e :: es) [] pos) (tM G W (mB f ma)) := PE.mono (pe_callTy hc hg hm hv ha hn hdb he hpl) fun _ _ _ h => tmB1 hf h
def rlOr (r r' : RL) : RL := fun vs H Q => r vs H Q ∨ r' vs H Q
theorem CallR.or {X : Cx} {f : Value} {r r' : RL} (a : CallR X f r) (b : CallR X f r') : CallR X f (rlOr r r') := fun pins s σ H xs us Q I rs h => h.elim (a pins s σ H xs us Q I rs) (b pins s σ H xs us Q I rs)
/-- len -/
def lenD (es : List EV) (s : S) : Res EV := match es with
  | [e] => match e.get with
    | .str z => if z.length ≤ sizeLine then .ok (.v (.int z.length)) s else .fail
    | .lst ds => .ok (.v (.int ds.length)) s
    | .tup ds => .ok (.v (.int ds.length)) s
    | _ => .fail
  | _ => .fail
abbrev rLenAll (K : PySem.W.Frag) : RL := rlOr (fun xs H Q => ∃ z, xs = [.str z] ∧ z.length ≤ sizeLine ∧ Q (.int z.length) H) (fun xs H Q => ∃ p ys, xs = [.ref p] ∧ (SqL K H p ys ∨ SqT K H p ys) ∧ Q (.int ys.length) H)
theorem call_lenAll {X : Cx} : CallR X (.builtin "len") (rLenAll X.K) := CallR.or call_len_str call_len_seq
theorem callD_len {G : Gam} : CallD G (rLenAll G.K) lenD := by
  intro w H s es vs Q W k r h
  unfold lenD at h
  split at h
  · cases r with
    | cons re rt =>
      cases rt
      split at h
      · rename_i z ez
        split at h
        · rename_i hl
          exact .inl ⟨z, by rw [re.str ez], hl, h.now k (.v (.int _))⟩
        · exact h.elim
      · rename_i ds ez
        obtain ⟨a, us, rfl, hq, r1⟩ := re.lst ez
        refine .inr ⟨a, us, rfl, .inl hq, ?_⟩
        rw [← r1.length]
        exact h.now k (.v (.int _))
      · rename_i ds ez
        obtain ⟨a, us, rfl, hq, r1⟩ := re.tup ez
        refine .inr ⟨a, us, rfl, .inr hq, ?_⟩
        rw [← r1.length]
        exact h.now k (.v (.int _))
      · exact h.elim
  · exact h.elim
/-- int(an int or a truth value) -/
def int1D (es : List EV) (s : S) : Res EV := match es with
  | [e] => match e.get with
    | .int i => .ok (.v (.int i)) s
    | .bl b => .ok (.v (.int (if b then 1 else 0))) s
    | _ => .fail
  | _ => .fail
theorem callD_int1 {G : Gam} : CallD G (fun xs H Q => (∃ i, xs = [.int i] ∧ Q (.int i) H) ∨ ∃ k, xs = [.bl k] ∧ Q (.int (if k then 1 else 0)) H) int1D := by
  intro w H s es vs Q W k r h
  unfold int1D at h
  split at h
  · cases r with
    | cons re rt =>
      cases rt
      split at h
      · rename_i z ez
        exact .inl ⟨z, by rw [re.int ez], h.now k (.v (.int _))⟩
      · rename_i z ez
        exact .inr ⟨z, by rw [re.bl ez], h.now k (.v (.int _))⟩
      · exact h.elim
  · exact h.elim
def absD (es : List EV) (s : S) : Res EV := match es with
  | [e] => match e.get with
    | .int i => .ok (.v (.int (if i < 0 then -i else i))) s
    | _ => .fail
  | _ => .fail
theorem callD_abs {G : Gam} : CallD G (fun xs H Q => ∃ i, xs = [.int i] ∧ Q (.int (if i < 0 then -i else i)) H) absD := by
  intro w H s es vs Q W k r h
  unfold absD at h
  split at h
  · cases r with
    | cons re rt =>
      cases rt
      split at h
      · rename_i z ez
        exact ⟨z, by rw [re.int ez], h.now k (.v (.int _))⟩
      · exact h.elim
  · exact h.elim
/-- list(x), tuple(x) -/
def listD (es : List EV) (s : S) : Res EV := match es with
  | [e] => match e.get with
    | .lst ds => .ok (.v (.lst ds)) s
    | .tup ds => .ok (.v (.lst ds)) s
    | _ => .fail
  | _ => .fail
theorem callD_list {G : Gam} : CallD G (fun xs H Q => ∃ p ys, xs = [.ref p] ∧ (SqL G.K H p ys ∨ SqT G.K H p ys) ∧ ∀ l, H l = none → Q (.ref l) (upd H l (.lst ys))) listD := by
  intro w H s es vs Q W k r h
  unfold listD at h
  split at h
  · cases r with
    | cons re rt =>
      cases rt
      split at h
      · rename_i ds ez
        obtain ⟨a, us, rfl, hq, r1⟩ := re.lst ez
        exact ⟨a, us, rfl, .inl hq, fun l nl => h.newL k nl r1⟩
      · rename_i ds ez
        obtain ⟨a, us, rfl, hq, r1⟩ := re.tup ez
        exact ⟨a, us, rfl, .inr hq, fun l nl => h.newL k nl r1⟩
      · exact h.elim
  · exact h.elim
def tupleD (es : List EV) (s : S) : Res EV := match es with
  | [e] => match e.get with
    | .lst ds => .ok (.v (.tup ds)) s
    | .tup ds => .ok (.v (.tup ds)) s
    | _ => .fail
  | _ => .fail
theorem callD_tuple {G : Gam} : CallD G (fun xs H Q => ∃ p ys, xs = [.ref p] ∧ ((SqL G.K H p ys ∧ ∀ l, H l = none → Q (.ref l) (upd H l (.tup ys))) ∨ (SqT G.K H p ys ∧ Q (.ref p) H))) tupleD := by
  intro w H s es vs Q W k r h
  unfold tupleD at h
  split at h
  · cases r with
    | cons re rt =>
      cases rt
      split at h
      · rename_i ds ez
        obtain ⟨a, us, rfl, hq, r1⟩ := re.lst ez
        exact ⟨a, us, rfl, .inl ⟨hq, fun l nl => h.newT k nl r1⟩⟩
      · rename_i ds ez
        obtain ⟨a, us, rfl, hq, r1⟩ := re.tup ez
        refine ⟨a, us, rfl, .inr ⟨hq, h.now k ?_⟩⟩
        cases re with
        | v re => cases ez; exact .v re
        | b _ _ _ _ => cases ez
      · exact h.elim
  · exact h.elim

/-! ### isinstance(x, a built-in type) -/
def tyN : D → Option String
  | .non => some "NoneType"
  | .bl _ => some "bool"
  | .int _ => some "int"
  | .str _ => some "str"
  | .tup _ => some "tuple"
  | .lst _ => some "list"
  | .dct _ => some "dict"
  | .dtt _ => some "dict"
  | _ => none
def tyS (s : S) : D → Option String
  | .obj i => match s.objs[i]? with
    | some (.lst _) => some "list"
    | some (.dct _) => some "dict"
    | _ => none
  | d => tyN d
theorem RpE.ty {G : Gam} {w : Wr} {H : Hp} {s : S} {e : EV} {v : V} {T : String} (k : Ok G w H s) (h : RpE G w H e v) (q : tyS s e.get = some T) : TyX G.K H v (.type T) := by
  cases h with
  | v h =>
    cases h with
    | non => cases q; exact .base .non
    | bl b => cases q; exact .base (.bl b)
    | int i => cases q; exact .base (.int i)
    | str x => cases q; exact .base (.str x)
    | tup h n r => cases q; exact .base (.tup h)
    | tupK h r =>
      cases q
      obtain ⟨o, its, n, h1, h2, _⟩ := h
      exact .kTuple h1 h2
    | lst h n r => cases q; exact .base (.lst h)
    | dct h n e r => cases q; exact .base (.dK h)
    | dtt h n e r => cases q; exact .base (.dT h)
    | ins hc h n e r => cases q
    | err hc h n hd nd e r => cases q
    | err0 hc h n => cases q
    | obj h =>
      unfold tyS at q
      simp only [EV.get_v] at q
      split at q
      · rename_i ds e
        cases q
        obtain ⟨vs, h1, _⟩ := k.objs _ _ _ h e
        exact .base (.lst h1)
      · rename_i ds e
        cases q
        obtain ⟨vs, h1, _⟩ := k.objs _ _ _ h e
        exact .base (.dK h1)
      · cases q
    | st => cases q
    | cls h => cases q
  | b h n f r => cases q; exact .base (.lst h)
def mIsi (T : String) (m : ME) : ME := fun env s => (m env s).bind fun e s => match (tyS s e.get).bind fun t => kitB t T with
  | some b => .ok (.v (.bl b)) s
  | none => .fail
theorem je_isi {G : Gam} {X : Cx} {W : WX} {T : String} {x : Str} {e : Expr} {p p2 pos : Pos} {m : ME} (hK : X.K = G.K) (hg : Gl X "isinstance") (hm : X.mg "isinstance" = none) (hg2 : Gl X x) (hm2 : X.mg x = none) (hv : bootBuiltins x = some (.type T)) (hn : x ≠ "__name__") (hdb : (x == ("__debug__" : Str)) = false)
    (he : PE X e (tM G W m)) (h1 : starEach [e, .Name x p2] X.env = (false, eval e X.env) :: starEach [.Name x p2] X.env) : PE X (.Call (.Name "isinstance" p) [e, .Name x p2] [] pos) (tM G W (mIsi T m)) := by
  have hx : PE X (.Name x p2) (tC (.ty T)) := pe_bltn hg2 hm2 hv rfl hn hdb
  refine PE.mono (pe_callB call_isi hg hm boot_isinstance (pa_cons he (pa_cons hx pa_nil rfl) h1) (by decide) (by decide) h1 (by rfl)) fun σ H Q ⟨w, env, s, H0, k, er, p⟩ => ?_
  refine ⟨w, env, s, H0, k, er, (Post.bind p).imp (fun x s1 w1 H1 x1 k1 p1 v1 r1 => ?_) fun _ _ _ z => z⟩
  split at p1
  · rename_i b eb
    obtain ⟨t, e1, e2⟩ := Option.bind_eq_some_iff.mp eb
    rw [hK]
    exact ⟨v1, .ty T, .type t, .type T, b, rfl, .ty T, r1.ty k1 e1, kit_ty e2, PQ.now p1 k1 (.v (.bl _))⟩
  · exact p1.elim

/-! ### methods of texts -/
def mMs (f : Str → List EV → S → Res EV) (mo : ME) (ma : MA) : ME := fun env s => (mo env s).bind fun o s => match o.get with
  | .str a => (ma env s).bind fun es s => f a es s
  | _ => .fail
abbrev RM := V → List V → Hp → VK → Prop
def MtD (G : Gam) (r : RM) (f : Str → List EV → S → Res EV) : Prop := ∀ (w : Wr) (H : Hp) (s : S) (a : Str) (es : List EV) (vs : List V) (Q : VK) (W : XW), Ok G w H s → RpEL G w H es vs → PQ G w H Q W (f a es s) → r (.str a) vs H Q
theorem je_smeth {G : Gam} {X : Cx} {W : WX} {o e : Expr} {es : List Expr} {name : Str} {id : String} {apos cpos : Pos} {r : RM} {f : Str → List EV → S → Res EV} {mo : ME} {ma : MA} (slot : Slot "str" name id) (hty : typeOf (.builtin id) = pure (.type "method_descriptor")) (hm : MtR X id r) (hf : MtD G r f)
    (ho : PE X o (tM G W mo)) (ha : PA X (e :: es) (tMA G W ma)) (hbase : attributeBase o name X.env (eval o X.env) = eval o X.env)
    (hfew : ((backTo cpos (starEach (e :: es) X.env)).all (fun x => !x.1) && (backToKw cpos (keywordEach [] X.env)).all (fun x => x.1.isSome)
      && decide ((e :: es).length + ([] : List Keyword).length + (if ([] : List Keyword).isEmpty then 0 else 1) < 30)) = true)
    (hline : (apos.endLine == cpos.line) = true) (hs : starEach (e :: es) X.env = (false, eval e X.env) :: starEach es X.env) (hplain : (backTo cpos (starEach es X.env)).any (·.1) = false) :
    PE X (.Call (.Attribute o name apos) (e :: es) [] cpos) (tM G W (mMs f mo ma)) := by
  refine PE.mono (pe_bm PySem.F.plainAttrs_str slot hty hm ho ha hbase hfew hline hs hplain) fun σ H Q ⟨w, env, s, H0, k, er, p⟩ => ?_
  refine ⟨w, env, s, H0, k, er, (Post.bind p).imp (fun x s1 w1 H1 x1 k1 p1 v1 r1 => ?_) fun _ _ _ z => z⟩
  split at p1
  · rename_i a ea
    have e1 := r1.str ea
    subst e1
    exact ⟨rfl, w1, env, s1, H0, k1, er.ext k x1, (Post.bind p1).imp (fun es s2 w2 H2 x2 k2 p2 vs r2 => hf w2 H2 s2 a es vs Q _ k2 r2 p2) fun _ _ _ z => z⟩
  · exact p1.elim
/-- sep.join(list or tuple of texts) -/
def strs? : List D → Option (List Str)
  | [] => some []
  | .str x :: r => (strs? r).map (x :: ·)
  | _ :: _ => none
theorem strs?_some : ∀ {ds : List D} {xs : List Str}, strs? ds = some xs → ds = xs.map D.str
  | [], _, h => by cases h; rfl
  | .str x :: r, _, h => by
    unfold strs? at h
    obtain ⟨ys, e, rfl⟩ := Option.map_eq_some_iff.mp h
    rw [strs?_some e]
    rfl
  | .non :: _, _, h => by cases h
  | .bl _ :: _, _, h => by cases h
  | .int _ :: _, _, h => by cases h
  | .tup _ :: _, _, h => by cases h
  | .lst _ :: _, _, h => by cases h
  | .dct _ :: _, _, h => by cases h
  | .dtt _ :: _, _, h => by cases h
  | .err _ _ :: _, _, h => by cases h
  | .ins _ _ :: _, _, h => by cases h
  | .obj _ :: _, _, h => by cases h
  | .st :: _, _, h => by cases h
  | .cls _ :: _, _, h => by cases h
def seqOf : D → Option (List D)
  | .lst ds => some ds
  | .tup ds => some ds
  | _ => none
theorem RpE.seq {G : Gam} {w : Wr} {H : Hp} {e : EV} {ds : List D} {v : V} (h : RpE G w H e v) (q : seqOf e.get = some ds) : ∃ a vs, v = .ref a ∧ (SqL G.K H a vs ∨ SqT G.K H a vs) ∧ RpL G w H ds vs := by
  cases e1 : e.get with
  | lst xs =>
    rw [e1] at q
    cases q
    obtain ⟨a, vs, e2, h1, r⟩ := h.lst e1
    exact ⟨a, vs, e2, .inl h1, r⟩
  | tup xs =>
    rw [e1] at q
    cases q
    obtain ⟨a, vs, e2, h1, r⟩ := h.tup e1
    exact ⟨a, vs, e2, .inr h1, r⟩
  | _ => rw [e1] at q; cases q
def joinD (a : Str) (es : List EV) (s : S) : Res EV := match es with
  | [e] => match (seqOf e.get).bind strs? with
    | some ys => if (ys.map (·.length)).sum + ys.length * a.length ≤ 16777216 then .ok (.v (.str (Txt.join a ys))) s else .fail
    | none => .fail
  | _ => .fail
theorem mtD_join {G : Gam} : MtD G (fun x xs H Q => ∃ a p, ∃ ys : List Str, x = .str a ∧ xs = [.ref p] ∧ (SqL G.K H p (ys.map V.str) ∨ SqT G.K H p (ys.map V.str)) ∧
    (ys.map (·.length)).sum + ys.length * a.length ≤ 16777216 ∧ Q (.str (Txt.join a ys)) H) joinD := by
  intro w H s a es vs Q W k r h
  unfold joinD at h
  split at h
  · cases r with
    | cons re rt =>
      cases rt
      split at h
      · rename_i ys ey
        split at h
        · rename_i hl
          obtain ⟨ds, e1, e2⟩ := Option.bind_eq_some_iff.mp ey
          obtain ⟨p, us, rfl, hq, r1⟩ := re.seq e1
          rw [strs?_some e2] at r1
          have e3 := r1.strs
          subst e3
          exact ⟨a, p, ys, rfl, rfl, hq, hl, h.now k (.v (.str _))⟩
        · exact h.elim
      · exact h.elim
  · exact h.elim

/-! ### slices -/
abbrev MO := Ev → S → Res (Option Int)
def oNone : MO := fun _ s => .ok none s
def oSome (m : ME) : MO := fun env s => (m env s).bind fun e s => match e.get with | .int i => .ok (some i) s | _ => .fail
def tMO (G : Gam) (W : WX) (m : MO) : TO := fun σ H Q => ∃ w env s H0, Ok G w H s ∧ EnvRel G H0 w H env σ ∧ Post G w H (fun o _ w' H' => Q o H') (fun c d H' => W c d σ H') (m env s)
theorem PO.mono {X : Cx} {e : Option Expr} {t t' : TO} (h : PO X e t) (hi : ∀ σ H Q, t' σ H Q → t σ H Q) : PO X e t' := ⟨fun pins s σ H Q I q => h.run pins s σ H Q I (hi σ H Q q)⟩
theorem jo_none {G : Gam} {X : Cx} {W : WX} : PO X none (tMO G W oNone) := PO.mono po_none fun σ H Q ⟨w, env, s, H0, k, er, p⟩ => p w H (Ext.refl _ _) k
theorem jo_some {G : Gam} {X : Cx} {W : WX} {e : Expr} {m : ME} (h : PE X e (tM G W m)) : PO X (some e) (tMO G W (oSome m)) := PO.mono (po_some h) fun σ H Q ⟨w, env, s, H0, k, er, p⟩ => by
  refine ⟨w, env, s, H0, k, er, (Post.bind p).imp (fun x s1 w1 H1 x1 k1 p1 v1 r1 => ?_) fun _ _ _ z => z⟩
  split at p1
  · rename_i i ei
    exact ⟨i, r1.int ei, p1 w1 H1 (Ext.refl _ _) k1⟩
  · exact p1.elim
def cutD {α : Type} (xs : List α) (lo hi : Option Int) : List α := (xs.drop (HT.sIx xs.length 0 lo)).take (HT.sIx xs.length xs.length hi - HT.sIx xs.length 0 lo)
theorem RpL.cut {G : Gam} {w : Wr} {H : Hp} {ds : List D} {vs : List V} (r : RpL G w H ds vs) (lo hi : Option Int) : RpL G w H (cutD ds lo hi) (cutV vs lo hi) := by
  unfold cutD cutV
  rw [r.length]
  exact (r.drop _).take _
def slD (x : EV) (lo hi : Option Int) (s : S) : Res EV := match x.get with
  | .lst ds => .ok (.v (.lst (cutD ds lo hi))) s
  | .tup ds => .ok (.v (.tup (cutD ds lo hi))) s
  | .str z => if z.length ≤ sizeLine then .ok (.v (.str (cutS z lo hi))) s else .fail
  | _ => .fail
def mSl (mx : ME) (ml mh : MO) : ME := fun env s => (mx env s).bind fun x s => (ml env s).bind fun l s => (mh env s).bind fun h s => slD x l h s
theorem cut_all {α : Type} {xs : List α} {lo hi : Option Int} (h : HT.sIx xs.length 0 lo = 0 ∧ HT.sIx xs.length xs.length hi = xs.length) : cutD xs lo hi = xs := by
  unfold cutD
  rw [h.1, h.2]
  simp
theorem je_slice {G : Gam} {X : Cx} {W : WX} {e : Expr} {lo hi : Option Expr} {p2 pos : Pos} {mx : ME} {ml mh : MO} (hK : X.K = G.K) (he : PE X e (tM G W mx)) (hl : PO X lo (tMO G W ml)) (hh : PO X hi (tMO G W mh)) : PE X (.Subscript e (.Slice lo hi none p2) pos) (tM G W (mSl mx ml mh)) := by
  refine PE.mono (pe_slice (SlR.or sl_list (SlR.or sl_tupA sl_str)) he hl hh) fun σ H Q ⟨w, env, s, H0, k, er, p⟩ => ?_
  refine ⟨w, env, s, H0, k, er, (Post.bind p).imp (fun x s1 w1 H1 x1 k1 p1 v1 r1 => ?_) fun _ _ _ z => z⟩
  refine ⟨w1, env, s1, H0, k1, er.ext k x1, (Post.bind p1).imp (fun l s2 w2 H2 x2 k2 p2 => ?_) fun _ _ _ z => z⟩
  refine ⟨w2, env, s2, H0, k2, (er.ext k x1).ext k1 x2, (Post.bind p2).imp (fun u s3 w3 H3 x3 k3 p3 => ?_) fun _ _ _ z => z⟩
  have r3 := (r1.ext k1 x2).ext k2 x3
  rw [hK]
  unfold slD at p3
  split at p3
  · rename_i ds ez
    obtain ⟨a, us, rfl, hq, r⟩ := r3.lst ez
    exact .inl ⟨a, us, rfl, hq, fun q nq => PQ.newL p3 k3 nq (r.cut l u)⟩
  · rename_i ds ez
    obtain ⟨a, us, rfl, hq, r⟩ := r3.tup ez
    refine .inr (.inl ⟨a, us, rfl, hq, fun hw => ?_, fun _ q nq => PQ.newT p3 k3 nq (r.cut l u)⟩)
    rw [← r.length] at hw
    rw [cut_all hw] at p3
    refine PQ.now p3 k3 ?_
    cases r3 with
    | v re => cases ez; exact .v re
    | b _ _ _ _ => cases ez
  · rename_i z ez
    split at p3
    · rename_i hz
      exact .inr (.inr ⟨z, r3.str ez, hz, PQ.now p3 k3 (.v (.str _))⟩)
    · exact p3.elim
  · exact p3.elim
/-- x[::-1] -/
def revD (x : EV) (s : S) : Res EV := match x.get with
  | .lst ds => .ok (.v (.lst ds.reverse)) s
  | .str z => if z.length ≤ sizeLine then .ok (.v (.str ⟨z.cps.toList.reverse.toArray⟩)) s else .fail
  | _ => .fail
def mRev (mx : ME) : ME := fun env s => (mx env s).bind fun x s => revD x s
theorem rev_ix (z : Str) : ((Builtin.Str.strSliceIndices none none (-1) z.length).filterMap (z.cps[·]?)) = z.cps.toList.reverse := by
  show ((sliceRange ((z.length : Int) - 1) (-1) (-1)).filterMap (z.cps[·]?)) = z.cps.toList.reverse
  rw [PySem.W.krv_sliceRange]
  have e : (List.range z.length).map (fun k => z.length - 1 - k) = (List.range z.length).reverse := by
    apply List.ext_getElem
    · simp
    · intro i h1 h2
      simp at h1
      rw [List.getElem_map, List.getElem_range, List.getElem_reverse, List.getElem_range, List.length_range]
  rw [e, List.filterMap_reverse]
  congr 1
  have : ∀ (l : List Nat), (List.range l.length).filterMap (l[·]?) = l := by
    intro l
    induction l with
    | nil => rfl
    | cons a r ih =>
      rw [List.length_cons, List.range_succ_eq_map, List.filterMap_cons]
      simp only [List.getElem?_cons_zero, List.filterMap_map]
      congr 1
  have q := this z.cps.toList
  simp only [Array.length_toList, Array.getElem?_toList] at q
  exact q
theorem rev_len (z : Str) : z.cps.toList.reverse.toArray.size = z.length := by simp [Str.length]
theorem je_rev {G : Gam} {X : Cx} {W : WX} {e : Expr} {k : Nat} {p1 p2 p3 pos : Pos} {mx : ME} (hK : X.K = G.K) (he : PE X e (tM G W mx)) : PE X (.Subscript e (.Slice none none (some (.UnaryOp .USub (.Constant (.int 1) k p1) p2)) p3) pos) (tM G W (mRev mx)) := by
  have hp : PE X (.Subscript e (.Slice none none (some (.UnaryOp .USub (.Constant (.int 1) k p1) p2)) p3) pos) (fun σ H Q => tM G W mx σ H fun x H1 => (∃ a xs, x = .ref a ∧ SqL X.K H1 a xs ∧ ∀ p, H1 p = none → Q (.ref p) (upd H1 p (.lst xs.reverse))) ∨
      ∃ z, x = .str z ∧ z.length ≤ sizeLine ∧ Q (.str ⟨z.cps.toList.reverse.toArray⟩) H1) := by
    refine ⟨fun pins s σ H Q I h => ?_⟩
    refine Subscript_ (thn (he.run pins s σ H _ I h) fun v s1 ⟨x, H1, I1, r1, q1⟩ => ?_)
    have hst : PO X (some (.UnaryOp .USub (.Constant (.int 1) k p1) p2)) (tPart (tUn (rU fun i => .int (-i)) (tC (.int 1)))) := po_some (pe_un un_neg pe_int)
    refine wpAny_Slice (thn (po_none.run pins s1 σ H1 (fun o H2 => o = none ∧ H2 = H1) I1 ⟨rfl, rfl⟩) fun vl s2 ⟨l, H2, I2, pl, el, e2⟩ => ?_)
    subst el e2
    refine thn (po_none.run pins s2 σ H2 (fun o H3 => o = none ∧ H3 = H2) I2 ⟨rfl, rfl⟩) fun vu s3 ⟨u, H3, I3, pu, eu, e3⟩ => ?_
    subst eu e3
    refine thn (hst.run pins s3 σ H3 (fun o H4 => o = some (-1) ∧ H4 = H3) I3 ⟨1, rfl, -1, rfl, rfl, rfl⟩) fun vs s4 ⟨o, H4, I4, ps, eo, e4⟩ => ?_
    subst eo e4
    have I5 : Inv X pins σ H4 { s4 with heap := s4.heap.push { cls := .type "slice", data := .fields #[vl, vu, vs] } } := I4.kept (t' := s4.toks) fun b ob q => Heap.get?_push_of_some _ q
    rcases q1 with ⟨a, xs, ex, hx, q⟩ | ⟨z, ex, hz, q⟩
    · subst ex
      cases r1
      obtain ⟨its, r, ht, hz⟩ := I5.list hx
      have hlen := r.length
      show wpAny (model X.prog X.w) X.A (subscriptTail e (.Slice none none (some (.UnaryOp .USub (.Constant (.int 1) k p1) p2)) p3) (.ref a) (.ref s4.heap.objs.size)) (EP X pins σ Q) X.xe { s4 with heap := s4.heap.push { cls := .type "slice", data := .fields #[vl, vu, vs] } }
      refine tail_any (ops := [.ref a, .ref s4.heap.objs.size]) ht.isList.typeIs (PySem.slot_list_getitem.lookup) ?_ (by with_unfolding_all rfl)
      refine wpAny_getItem_list_slice ht.isList (Heap.IsSliceOf.new _ vl vu vs) pl pu ps (by decide) ?_ (by rw [List.size_toArray]; omega)
      rw [PySem.W.krv_pick]
      refine ⟨.ref _, _, I5.laid (t' := s4.toks) (o := .lst xs.reverse) (fun b ob q => Heap.get?_push_of_some _ q) (Nat.le_refl _) ?_, rfl, q _ (I5.hok.fresh (Nat.le_refl _))⟩
      exact ⟨by rw [List.length_reverse]; exact hz, _, 0, r.reverse, Heap.get?_push_size _ rfl⟩
    · subst ex
      obtain ⟨t, rfl⟩ := r1
      obtain ⟨l', rfl, el⟩ := IsPart.raw pl
      obtain ⟨u', rfl, eu⟩ := IsPart.raw pu
      obtain ⟨st, rfl, es⟩ := IsPart.raw ps
      show wpAny (model X.prog X.w) X.A (subscriptTail e (.Slice none none (some (.UnaryOp .USub (.Constant (.int 1) k p1) p2)) p3) (.str z t) (.ref s4.heap.objs.size)) (EP X pins σ Q) X.xe { s4 with heap := s4.heap.push { cls := .type "slice", data := .fields #[partValue l', partValue u', partValue st] } }
      refine tail_any (ops := [.ref s4.heap.objs.size, .str z t]) (typeIs_str _ _ _) F.slot_str_getitem.lookup ?_ (by with_unfolding_all rfl)
      refine wpAny_getItem_str_slice (l := l') (u := u') (st := st) ⟨_, Heap.get?_push_size _ rfl, rfl, rfl⟩ (by rw [es]; rfl) ?_
      show Made.post (if ((st.map (·.1)).getD 1 == 1 && (Builtin.Str.strSliceIndices (l'.map (·.1)) (u'.map (·.1)) ((st.map (·.1)).getD 1) z.length).length == z.length) = true then Made.val (.str z t)
        else Made.str ⟨((Builtin.Str.strSliceIndices (l'.map (·.1)) (u'.map (·.1)) ((st.map (·.1)).getD 1) z.length).filterMap (z.cps[·]?)).toArray⟩) (EP X pins σ Q) _
      rw [el, eu, es]
      show Made.post (Made.str ⟨((Builtin.Str.strSliceIndices none none (-1) z.length).filterMap (z.cps[·]?)).toArray⟩) (EP X pins σ Q) _
      rw [rev_ix]
      exact ⟨by show z.cps.toList.reverse.toArray.size ≤ sizeLine; rw [rev_len]; exact hz, .str _, H4, I5.tok _, ⟨_, rfl⟩, q⟩
  refine PE.mono hp fun σ H Q ⟨w, env, s, H0, k, er, p⟩ => ?_
  refine ⟨w, env, s, H0, k, er, (Post.bind p).imp (fun x s1 w1 H1 x1 k1 p1 v1 r1 => ?_) fun _ _ _ z => z⟩
  rw [hK]
  unfold revD at p1
  split at p1
  · rename_i ds ez
    obtain ⟨a, us, rfl, hq, r⟩ := r1.lst ez
    exact .inl ⟨a, us, rfl, hq, fun q nq => PQ.newL p1 k1 nq r.reverse⟩
  · rename_i z ez
    split at p1
    · rename_i hz
      exact .inr ⟨z, r1.str ez, hz, PQ.now p1 k1 (.v (.str _))⟩
    · exact p1.elim
  · exact p1.elim
end SR

set_option Elab.async false
set_option linter.all false
set_option maxRecDepth 100000
set_option autoImplicit false
/-! Walks, comprehensions. -/
namespace SR
open PySem PySem.Spec PyProof.Rows
open L2 hiding St

/-! ### what is walked -/
abbrev MI := Ev → S → Res (Bool × List D)
def Step (G : Gam) (w : Wr) (H : Hp) (s : S) (J : It) (ds : List D) : Prop := ∀ i : Nat, (∀ d, ds[i]? = some d → J.go i H ∧ ∀ x H2, J.yld i H x H2 → Ext w H w H2 ∧ Ok G w H2 s ∧ Rp G w H2 d x) ∧ (ds.length ≤ i → J.stop i H)
def ItE (G : Gam) (w : Wr) (H : Hp) (J : It) (ds : List D) : Prop := ∀ w1 H1 s1, Ext w H w1 H1 → Ok G w1 H1 s1 → Step G w1 H1 s1 J ds
def ItP (G : Gam) (w : Wr) (H : Hp) (J : It) (ds : List D) : Prop := ∀ w1 H1 s1, Pass w H w1 H1 → Ok G w1 H1 s1 → Step G w1 H1 s1 J ds
theorem ItP.e {G : Gam} {w : Wr} {H : Hp} {s : S} {J : It} {ds : List D} (k : Ok G w H s) (h : ItP G w H J ds) : ItE G w H J ds := fun w1 H1 s1 x k1 => h w1 H1 s1 (x.pass k) k1
theorem Pass.refl (w : Wr) (H : Hp) : Pass w H w H := ⟨fun _ _ h => h, fun _ _ h n => ⟨h, n⟩⟩
theorem Pass.trans {w w1 w2 : Wr} {H H1 H2 : Hp} (a : Pass w H w1 H1) (b : Pass w1 H1 w2 H2) : Pass w H w2 H2 := ⟨fun i x h => b.ids i x (a.ids i x h), fun x o h n => b.keep x o (a.keep x o h n).1 (a.keep x o h n).2⟩
theorem step_list {G : Gam} {w : Wr} {H : Hp} {s : S} {a : Addr} {ds : List D} {vs : List V} (k : Ok G w H s) (h : H a = some (.lst vs)) (r : RpL G w H ds vs) : Step G w H s (Itl G.K a) ds := by
  intro i
  refine ⟨fun d e => ?_, fun e => ⟨vs, .inl (.inl h), by rw [← r.length]; exact e⟩⟩
  obtain ⟨v, e1, r1⟩ := r.get e
  refine ⟨⟨vs, v, .inl (.inl h), e1⟩, fun x H2 y => ?_⟩
  obtain ⟨e2, y⟩ := y
  subst e2
  have e3 := y vs (.inl (.inl h))
  rw [e1] at e3
  cases e3
  exact ⟨Ext.refl _ _, k, r1⟩
theorem step_tup {G : Gam} {w : Wr} {H : Hp} {s : S} {a : Addr} {ds : List D} {vs : List V} (k : Ok G w H s) (h : SqT G.K H a vs) (r : RpL G w H ds vs) : Step G w H s (Itt G.K a) ds := by
  intro i
  refine ⟨fun d e => ?_, fun e => ⟨vs, h, by rw [← r.length]; exact e⟩⟩
  obtain ⟨v, e1, r1⟩ := r.get e
  refine ⟨⟨vs, v, h, e1⟩, fun x H2 y => ?_⟩
  obtain ⟨e2, y⟩ := y
  subst e2
  have e3 := y vs h
  rw [e1] at e3
  cases e3
  exact ⟨Ext.refl _ _, k, r1⟩
def chars (x : Str) : List D := x.cps.toList.map fun c => .str ⟨#[c]⟩
theorem step_str {G : Gam} {w : Wr} {H : Hp} {s : S} {x : Str} (k : Ok G w H s) : Step G w H s (Its x) (chars x) := by
  intro i
  refine ⟨fun d e => ?_, fun e => ?_⟩
  · unfold chars at e
    rw [List.getElem?_map] at e
    obtain ⟨c, e1, rfl⟩ := Option.map_eq_some_iff.mp e
    have e2 : x.cps[i]? = some c := by rw [← Array.getElem?_toList]; exact e1
    refine ⟨(Array.getElem?_eq_some_iff.mp e2).1, fun y H2 q => ?_⟩
    obtain ⟨rfl, c', e3, rfl⟩ := q
    rw [e2] at e3
    cases e3
    exact ⟨Ext.refl _ _, k, .str _⟩
  · unfold chars at e
    rw [List.length_map, Array.length_toList] at e
    exact e
def irange (lo : Int) (n : Nat) : List D := (List.range n).map fun (i : Nat) => .int (lo + (i : Int))
theorem step_range {G : Gam} {w : Wr} {H : Hp} {s : S} {lo : Int} {n : Nat} (k : Ok G w H s) : Step G w H s (Itr lo n) (irange lo n) := by
  intro i
  refine ⟨fun d e => ?_, fun e => ?_⟩
  · unfold irange at e
    rw [List.getElem?_map] at e
    obtain ⟨c, e1, rfl⟩ := Option.map_eq_some_iff.mp e
    obtain ⟨h1, h2⟩ := List.getElem?_eq_some_iff.mp e1
    rw [List.getElem_range] at h2
    subst h2
    rw [List.length_range] at h1
    refine ⟨h1, fun y H2 q => ?_⟩
    obtain ⟨rfl, rfl⟩ := q
    exact ⟨Ext.refl _ _, k, .int _⟩
  · unfold irange at e
    rw [List.length_map, List.length_range] at e
    exact e
def tMI (G : Gam) (W : WX) (m : MI) : TI := fun σ H R => ∃ w env s H0, Ok G w H s ∧ EnvRel G H0 w H env σ ∧ Post G w H (fun p _ w' H' => ∀ J, ItE G w' H' J p.2 → (p.1 = true → ItP G w' H' J p.2) → R J H') (fun c d H' => W c d σ H') (m env s)
theorem PI.mono {X : Cx} {tg e : Expr} {t t' : TI} (h : PI X tg e t) (hi : ∀ σ H Q, t' σ H Q → t σ H Q) : PI X tg e t' := ⟨fun pins s σ H Q I q => h.run pins s σ H Q I (hi σ H Q q)⟩
def iterD (e : EV) (s : S) : Res (Bool × List D) := match e with
  | .v (.lst ds) => .ok (true, ds) s
  | .v (.tup ds) => .ok (true, ds) s
  | .v (.str x) => .ok (true, chars x) s
  | .b (.lst ds) => .ok (false, ds) s
  | _ => .fail
def iSeq (m : ME) : MI := fun env s => (m env s).bind fun e s => iterD e s
theorem pi_any {X : Cx} {tg l : Expr} {tl : TE} (hl : PE X l tl) : PI X tg l (fun σ H R => tl σ H fun x H1 => (∃ a, x = .ref a ∧ (∃ xs, SqL X.K H1 a xs) ∧ R (Itl X.K a) H1) ∨ (∃ a, x = .ref a ∧ (∃ xs, SqT X.K H1 a xs) ∧ R (Itt X.K a) H1) ∨ ∃ z, x = .str z ∧ R (Its z) H1) := by
  refine ⟨fun pins s σ H R I h => ?_⟩
  refine thn (hl.run pins s σ H _ I h) fun v s1 ⟨x, H1, I1, r1, q1⟩ => ?_
  rcases q1 with ⟨a, e, ⟨xs, hq⟩, q⟩ | ⟨a, e, ⟨xs, hq⟩, q⟩ | ⟨z, e, q⟩
  · subst e
    cases r1
    obtain ⟨its, rv, p, hz⟩ := I1.list hq
    refine wpAny_pyIter_list p.isList ?_
    refine ⟨s1.heap.objs.size, [s1.heap.objs.size], _, _, H1, rfl, I1.kept (t' := s1.toks) fun b o e => Heap.get?_push_of_some _ e, turn_list a _, ⟨_, Heap.get?_push_size _ rfl, rfl, rfl⟩, fun b hb => ?_, q⟩
    have e : b = s1.heap.objs.size := by simpa using hb
    subst e
    exact I1.fpOk (Nat.le_refl _) (I1.hok.fresh (Nat.le_refl _))
  · subst e
    cases r1
    obtain ⟨its, rv, p, hz⟩ := I1.tuple hq
    refine wpAny_pyIter_tuple (show s1.heap.IsTuple a its.toArray from p) ?_
    refine ⟨s1.heap.objs.size, [s1.heap.objs.size], _, _, H1, rfl, I1.kept (t' := s1.toks) fun b o e => Heap.get?_push_of_some _ e, turn_tuple a _, ⟨_, Heap.get?_push_size _ rfl, rfl, rfl⟩, fun b hb => ?_, q⟩
    have e : b = s1.heap.objs.size := by simpa using hb
    subst e
    exact I1.fpOk (Nat.le_refl _) (I1.hok.fresh (Nat.le_refl _))
  · subst e
    obtain ⟨t, rfl⟩ := r1
    cases ha : z.cps.all (· < 128)
    · exact wpAny_pyIter_wide ha (pi_one (tk := s1.toks) I1 _ (turn_str _ z t "str_iterator" (.inr rfl)) ⟨_, Heap.get?_push_size _ rfl, rfl, rfl⟩ q)
    · exact wpAny_pyIter_ascii ha (pi_one (tk := s1.toks) I1 _ (turn_str _ z t "str_ascii_iterator" (.inl rfl)) ⟨_, Heap.get?_push_size _ rfl, rfl, rfl⟩ q)
theorem ji_seq {G : Gam} {X : Cx} {W : WX} {tg e : Expr} {m : ME} (hK : X.K = G.K) (h : PE X e (tM G W m)) : PI X tg e (tMI G W (iSeq m)) := by
  refine PI.mono (pi_any h) fun σ H Q ⟨w, env, s, H0, k, er, p⟩ => ?_
  refine ⟨w, env, s, H0, k, er, (Post.bind p).imp (fun x s1 w1 H1 x1 k1 p1 v1 r1 => ?_) fun _ _ _ z => z⟩
  rw [hK]
  unfold iterD at p1
  split at p1
  · cases r1 with
    | v r1 =>
      cases r1 with
      | lst h n r =>
        refine .inl ⟨_, rfl, ⟨_, .inl (.inl h)⟩, p1 w1 H1 (Ext.refl _ _) k1 _ ?_ fun _ => ?_⟩
        · exact ItP.e k1 fun w2 H2 s2 x2 k2 => step_list k2 (x2.keep _ _ h n).1 (r.pass x2)
        · exact fun w2 H2 s2 x2 k2 => step_list k2 (x2.keep _ _ h n).1 (r.pass x2)
  · rename_i ds
    cases r1 with
    | v r1 =>
      have hP : ∃ a vs, v1 = .ref a ∧ SqT G.K H1 a vs ∧ ItP G w1 H1 (Itt G.K a) ds := by
        cases r1 with
        | tup h n r => exact ⟨_, _, rfl, .inl (.inl h), fun w2 H2 s2 x2 k2 => step_tup k2 (.inl (.inl (x2.keep _ _ h n).1)) (r.pass x2)⟩
        | tupK h r => exact ⟨_, _, rfl, .inr h, fun w2 H2 s2 x2 k2 => step_tup k2 (.inr h) (r.pass x2)⟩
      obtain ⟨a, vs, rfl, hq, hp⟩ := hP
      exact .inr (.inl ⟨a, rfl, ⟨_, hq⟩, p1 w1 H1 (Ext.refl _ _) k1 _ (ItP.e k1 hp) fun _ => hp⟩)
  · rename_i x
    have e1 : v1 = .str x := r1.str rfl
    subst e1
    exact .inr (.inr ⟨x, rfl, p1 w1 H1 (Ext.refl _ _) k1 _ (fun w2 H2 s2 x2 k2 => step_str k2) fun _ w2 H2 s2 x2 k2 => step_str k2⟩)
  · cases r1 with
    | b h n f r =>
      refine .inl ⟨_, rfl, ⟨_, .inl (.inl h)⟩, p1 w1 H1 (Ext.refl _ _) k1 _ ?_ fun z => nomatch z⟩
      exact fun w2 H2 s2 x2 k2 => step_list k2 (x2.keep _ _ h n) (r.pass (x2.pass k1))
  · exact p1.elim
/-- range(n), range(a, b) -/
def rangeD (es : List EV) (s : S) : Res (Bool × List D) := match es with
  | [e] => match e.get with
    | .int j => if -(2 ^ 62) ≤ j ∧ j < 2 ^ 62 then .ok (true, irange 0 j.toNat) s else .fail
    | _ => .fail
  | _ => .fail
def iRange (ma : MA) : MI := fun env s => (ma env s).bind fun es s => rangeD es s
theorem ji_range {G : Gam} {X : Cx} {W : WX} {tg a : Expr} {p pos : Pos} {ma : MA} (hg : Gl X "range") (hm : X.mg "range" = none) (ha : PA X [a] (tMA G W ma)) (hs : starEach [a] X.env = [(false, eval a X.env)]) : PI X tg (.Call (.Name "range" p) [a] [] pos) (tMI G W (iRange ma)) := by
  refine PI.mono (pi_range1 hg hm ha hs) fun σ H Q ⟨w, env, s, H0, k, er, p⟩ => ?_
  refine ⟨w, env, s, H0, k, er, (Post.bind p).imp (fun es s1 w1 H1 x1 k1 p1 vs r1 => ?_) fun _ _ _ z => z⟩
  unfold rangeD at p1
  split at p1
  · cases r1 with
    | cons re rt =>
      cases rt
      split at p1
      · rename_i j ej
        split at p1
        · rename_i hj
          refine ⟨j, by rw [re.int ej], hj.1, hj.2, p1 w1 H1 (Ext.refl _ _) k1 _ (fun w2 H2 s2 x2 k2 => step_range k2) fun _ w2 H2 s2 x2 k2 => step_range k2⟩
        · exact p1.elim
      · exact p1.elim
  · exact p1.elim

/-! ### targets -/
inductive Tg where
  | nm (i : Nat)
  | tp (is : List Nat)
def setAll : List Nat → List D → Ev → Option Ev
  | [], [], env => some env
  | i :: is, d :: ds, env => setAll is ds (env.set i (some (.v d)))
  | _, _, _ => none
def Tg.bind (t : Tg) (d : D) (env : Ev) : Option Ev := match t, d with
  | .nm i, d => some (env.set i (some (.v d)))
  | .tp is, .tup ds => setAll is ds env
  | .tp _, _ => none
def Tg.slots : Tg → List Nat
  | .nm i => [i]
  | .tp is => is
/-- a target's reading: the value is stored -/
def gTs : List Nat → TGs
  | [] => gNil
  | i :: is => gCons (gName i) (gTs is)
def gT (K : PySem.W.Frag) : Tg → TG
  | .nm i => gName i
  | .tp is => gTup K is.length (gTs is)
theorem EnvRel.set {G : Gam} {H0 : Hp} {w : Wr} {H : Hp} {env : Ev} {σ : Sg} {i : Nat} {d : D} {v : V} (e : EnvRel G H0 w H env σ) (r : Rp G w H d v) : EnvRel G H0 w H (env.set i (some (.v d))) (σ.set i (some v)) where
  len := by rw [List.length_set, List.length_set, e.len]
  val := fun j d' h => by
    by_cases hj : i = j
    · subst hj
      have hl : i < env.length := by
        have := (List.getElem?_eq_some_iff.mp h).1
        rwa [List.length_set] at this
      rw [List.getElem?_set_self hl] at h
      cases h
      exact ⟨v, List.getElem?_set_self (by rw [← e.len]; exact hl), r⟩
    · rw [List.getElem?_set_ne hj] at h
      rw [List.getElem?_set_ne hj]
      exact e.val j d' h
  own := fun j d' h => by
    by_cases hj : i = j
    · subst hj
      have hl : i < env.length := by
        have := (List.getElem?_eq_some_iff.mp h).1
        rwa [List.length_set] at this
      rw [List.getElem?_set_self hl] at h
      cases h
    · rw [List.getElem?_set_ne hj] at h
      rw [List.getElem?_set_ne hj]
      exact e.own j d' h
  dis := fun a b d1 d2 p h1 h2 h3 h4 => by
    have na : i ≠ a := fun z => by
      subst z
      have hl : i < env.length := by
        have := (List.getElem?_eq_some_iff.mp h1).1
        rwa [List.length_set] at this
      rw [List.getElem?_set_self hl] at h1
      cases h1
    have nb : i ≠ b := fun z => by
      subst z
      have hl : i < env.length := by
        have := (List.getElem?_eq_some_iff.mp h2).1
        rwa [List.length_set] at this
      rw [List.getElem?_set_self hl] at h2
      cases h2
    rw [List.getElem?_set_ne na] at h1 h3
    rw [List.getElem?_set_ne nb] at h2 h4
    exact e.dis a b d1 d2 p h1 h2 h3 h4
theorem gTs_ok {G : Gam} {H0 : Hp} {w : Wr} {H : Hp} {Q : Sg → Hp → Prop} : ∀ {is : List Nat} {ds : List D} {vs : List V} {env env' : Ev} {σ : Sg}, EnvRel G H0 w H env σ → RpL G w H ds vs → setAll is ds env = some env' →
    (∀ σ', EnvRel G H0 w H env' σ' → (∀ us : List Nat, (∀ i ∈ is, i ∈ us) → wipe σ' us = wipe σ us) → Q σ' H) → gTs is vs σ H Q
  | [], [], _, env, env', σ, e, .nil, h, q => by
    cases h
    exact ⟨rfl, q σ e fun _ _ => rfl⟩
  | i :: is, d :: ds, _, env, env', σ, e, .cons r t, h, q => by
    refine ⟨_, _, rfl, ?_⟩
    refine gTs_ok (e.set r) t h fun σ' e' hw => q σ' e' fun us hu => ?_
    rw [hw us fun j hj => hu j (List.mem_cons_of_mem _ hj)]
    exact wipe_set (hu i List.mem_cons_self)
  | [], _ :: _, _, _, _, _, _, _, h, _ => by cases h
  | _ :: _, [], _, _, _, _, _, _, h, _ => by cases h
where
  wipe_set {σ : Sg} {i : Nat} {x : Option V} : ∀ {us : List Nat}, i ∈ us → wipe (σ.set i x) us = wipe σ us
    | u :: us, hm => by
      unfold wipe
      by_cases hu : i ∈ us
      · rw [wipe_set hu]
      · have e : i = u := by
          rcases List.mem_cons.mp hm with z | z
          · exact z
          · exact absurd z hu
        subst e
        have : ∀ (us : List Nat), i ∉ us → wipe (σ.set i x) us = (wipe σ us).set i x := by
          intro us
          induction us with
          | nil => intro _; rfl
          | cons v vs ih =>
            intro hn
            unfold wipe
            rw [ih fun z => hn (List.mem_cons_of_mem _ z)]
            exact List.set_comm _ _ (fun z => hn (by rw [z]; exact List.mem_cons_self))
        rw [this us hu, List.set_set]
theorem gT_ok {G : Gam} {H0 : Hp} {w : Wr} {H : Hp} {Q : Sg → Hp → Prop} {t : Tg} {d : D} {v : V} {env env' : Ev} {σ : Sg} (e : EnvRel G H0 w H env σ) (r : Rp G w H d v) (h : t.bind d env = some env')
    (q : ∀ σ', EnvRel G H0 w H env' σ' → (∀ us : List Nat, (∀ i ∈ t.slots, i ∈ us) → wipe σ' us = wipe σ us) → Q σ' H) : gT G.K t v σ H Q := by
  cases t with
  | nm i =>
    cases h
    exact q _ (e.set r) fun us hu => gTs_ok.wipe_set (hu i (by simp [Tg.slots]))
  | tp is =>
    cases d with
    | tup ds =>
      obtain ⟨a, vs, rfl, hs, rl⟩ := r.tupS
      refine ⟨a, vs, rfl, hs, ?_, gTs_ok e rl h q⟩
      have : ∀ {is : List Nat} {ds : List D} {env env' : Ev}, setAll is ds env = some env' → ds.length = is.length := by
        intro is
        induction is with
        | nil => intro ds env env' h; cases ds with | nil => rfl | cons _ _ => cases h
        | cons i is ih => intro ds env env' h; cases ds with | nil => cases h | cons d ds => rw [List.length_cons, List.length_cons, ih h]
      rw [← rl.length]
      exact this h
    | _ => cases h
end SR

set_option Elab.async false
set_option linter.all false
set_option maxRecDepth 100000
set_option autoImplicit false
/-! Comprehensions. -/
namespace SR
open PySem PySem.Spec PyProof.Rows
open L2 hiding St

/-- as bind, where no exception may come -/
def Res.bindN {α β : Type} : Res α → (α → S → Res β) → Res β
  | .ok a s, f => f a s
  | .exc _ _, _ => .fail
  | .ch n k, f => .ch n fun r => (k r).bindN f
  | .fail, _ => .fail
@[simp] theorem Res.ok_bindN {α β : Type} (a : α) (s : S) (f : α → S → Res β) : (Res.ok a s).bindN f = f a s := rfl
@[simp] theorem Res.exc_bindN {α β : Type} (x : XV) (s : S) (f : α → S → Res β) : (Res.exc x s).bindN f = .fail := rfl
@[simp] theorem Res.ch_bindN {α β : Type} (n : Nat) (k : Nat → Res α) (f : α → S → Res β) : (Res.ch n k).bindN f = .ch n fun r => (k r).bindN f := rfl
@[simp] theorem Res.fail_bindN {α β : Type} (f : α → S → Res β) : (Res.fail : Res α).bindN f = .fail := rfl
abbrev W0 : WX := fun _ _ _ _ => False
theorem Post.bindN {α β : Type} {G : Gam} {w w2 : Wr} {H H2 : Hp} {R : β → S → Wr → Hp → Prop} {W : XW} {f : α → S → Res β} : ∀ {m : Res α}, Post G w H R W (m.bindN f) → Post G w2 H2 (fun a s _ _ => Post G w H R W (f a s)) (fun _ _ _ => False) m
  | .ok a s, h => fun w' H' e o => h
  | .exc _ _, h => h.elim
  | .ch n k, h => fun r hr => Post.bindN (m := k r) (h r hr)
  | .fail, h => h
def lockW (w : Wr) (D : Addr) : Wr := { w with ph := fun a => w.ph a ∨ a = D }
def unlockW (w : Wr) (D : Addr) : Wr := { w with ph := fun a => w.ph a ∧ a ≠ D }
theorem Ext.lock {w w1 : Wr} {H H1 : Hp} {D : Addr} (x : Ext w H w1 H1) (n : H D = none) : Ext w H (lockW w1 D) H1 :=
  ⟨x.ids, fun a h => .inl (x.ph1 a h), fun a h => h.elim (x.ph2 a) fun e => .inr (by rw [e]; exact n), x.mu1, x.mu2, x.keep, x.dom⟩
theorem Ext.put {w w1 : Wr} {H H1 : Hp} {D : Addr} (x : Ext w H w1 H1) (n : H D = none) (o : HO) : Ext w H w1 (upd H1 D o) :=
  ⟨x.ids, x.ph1, x.ph2, x.mu1, x.mu2, fun a u h m => by rw [upd_ne (ne_of_none h n)]; exact x.keep a u h m, fun a h => by
    by_cases e : a = D
    · rw [e]; exact n
    · rw [upd_ne e] at h; exact x.dom a h⟩
theorem Ext.unlock {w w1 : Wr} {H H1 : Hp} {D : Addr} (x : Ext w H w1 H1) (m : ¬ w.ph D) : Ext w H (unlockW w1 D) H1 :=
  ⟨x.ids, fun a h => ⟨x.ph1 a h, fun e => m (e ▸ h)⟩, fun a h => x.ph2 a h.1, x.mu1, x.mu2, x.keep, x.dom⟩
/-- an address that is neither frozen nor to be changed by others is written -/
theorem Pass.put {w : Wr} {H : Hp} {D : Addr} (p : w.ph D) (o : HO) : Pass w H w (upd H D o) := ⟨fun _ _ h => h, fun a u h n => ⟨by rw [upd_ne (fun (e : a = D) => n (by rw [e]; exact p))]; exact h, n⟩⟩
theorem Ok.put {G : Gam} {w : Wr} {H : Hp} {s : S} {D : Addr} (k : Ok G w H s) (p : w.ph D) (m : ¬ w.mu D) (o : HO) : Ok G w (upd H D o) s := by
  have ne : ∀ a, w.mu a → a ≠ D := fun a h e => m (e ▸ h)
  refine ⟨k.sub, fun a h z => ?_, k.len, k.nd, k.rmu, fun i a u h1 h2 => (k.objs i a u h1 h2).pass (Pass.put p o) fun v z => ?_, k.draw.keep (fun a u h hm n => ⟨?_, n⟩) fun _ h => h⟩
  · by_cases e : a = D
    · rw [e, upd_same] at z; cases z
    · rw [upd_ne e] at z; exact k.ins a h z
  · rw [upd_ne (ne a (k.rmu a (List.mem_of_getElem? h1)))]; exact z
  · rw [upd_ne (ne a hm)]; exact h
/-- a new object that stays ours -/
theorem Pass.lock {w : Wr} {H : Hp} {D : Addr} (n : H D = none) (o : HO) : Pass w H (lockW w D) (upd H D o) :=
  ⟨fun _ _ h => h, fun a u h m => ⟨by rw [upd_ne (ne_of_none h n)]; exact h, fun z => z.elim m fun e => ne_of_none h n e⟩⟩
theorem Ok.lock {G : Gam} {w : Wr} {H : Hp} {s : S} {D : Addr} (k : Ok G w H s) (n : H D = none) (o : HO) : Ok G (lockW w D) (upd H D o) s := by
  have ne : ∀ a, w.mu a → a ≠ D := fun a h e => k.ins a (k.sub a h) (e ▸ n)
  refine ⟨fun a z => .inl (k.sub a z), fun a z q => ?_, k.len, k.nd, k.rmu, fun i a u h1 h2 => (k.objs i a u h1 h2).pass (Pass.lock n o) fun v z => ?_, k.draw.keep (fun a u h hm n => ⟨?_, n⟩) fun _ h => h⟩
  · by_cases e : a = D
    · rw [e, upd_same] at q; cases q
    · rw [upd_ne e] at q
      exact z.elim (fun z => k.ins a z q) e
  · rw [upd_ne (ne a (k.rmu a (List.mem_of_getElem? h1)))]; exact z
  · rw [upd_ne (ne a hm)]; exact h
theorem Pass.unlock {w : Wr} {H : Hp} {D : Addr} : Pass w H (unlockW w D) H := ⟨fun _ _ h => h, fun a u h m => ⟨h, fun z => m z.1⟩⟩
theorem Ok.unlock {G : Gam} {w : Wr} {H : Hp} {s : S} {D : Addr} (k : Ok G w H s) (m : ¬ w.mu D) : Ok G (unlockW w D) H s :=
  ⟨fun a z => ⟨k.sub a z, fun e => m (e ▸ z)⟩, fun a z => k.ins a z.1, k.len, k.nd, k.rmu, fun i a o h1 h2 => (k.objs i a o h1 h2).pass Pass.unlock fun _ z => z, k.draw.keep (fun a o h _ n => ⟨h, n⟩) fun _ h => h⟩

/-! ### the slots of a block -/
def wipeE (env : Ev) : List Nat → Ev
  | [] => env
  | v :: vs => (wipeE env vs).set v none
theorem EnvRel.drop {G : Gam} {H0 : Hp} {w : Wr} {H : Hp} {env : Ev} {σ : Sg} (i : Nat) (x : Option V) (e : EnvRel G H0 w H env σ) : EnvRel G H0 w H (env.set i none) (σ.set i x) := by
  have get : ∀ (j : Nat) (z : Sl), (env.set i none)[j]? = some (some z) → i ≠ j ∧ env[j]? = some (some z) := fun j z h => by
    by_cases hj : i = j
    · subst hj
      have hl : i < env.length := by
        have := (List.getElem?_eq_some_iff.mp h).1
        rwa [List.length_set] at this
      rw [List.getElem?_set_self hl] at h
      cases h
    · rw [List.getElem?_set_ne hj] at h
      exact ⟨hj, h⟩
  refine ⟨by rw [List.length_set, List.length_set, e.len], fun j d h => ?_, fun j d h => ?_, fun a b d1 d2 p h1 h2 h3 h4 => ?_⟩
  · obtain ⟨hj, h⟩ := get j _ h
    rw [List.getElem?_set_ne hj]
    exact e.val j d h
  · obtain ⟨hj, h⟩ := get j _ h
    rw [List.getElem?_set_ne hj]
    exact e.own j d h
  · obtain ⟨ha, h1⟩ := get a _ h1
    obtain ⟨hb, h2⟩ := get b _ h2
    rw [List.getElem?_set_ne ha] at h3
    rw [List.getElem?_set_ne hb] at h4
    exact e.dis a b d1 d2 p h1 h2 h3 h4
theorem EnvRel.wipe {G : Gam} {H0 : Hp} {w : Wr} {H : Hp} {env : Ev} {σ : Sg} (e : EnvRel G H0 w H env σ) : ∀ (vs : List Nat), EnvRel G H0 w H (wipeE env vs) (L2.wipe σ vs)
  | [] => e
  | v :: vs => by
    unfold wipeE L2.wipe
    exact (e.wipe vs).drop v none

theorem wipe_sub {σ : Sg} {us : List Nat} : ∀ {vs : List Nat}, (∀ i ∈ vs, i ∈ us) → L2.wipe (L2.wipe σ vs) us = L2.wipe σ us
  | [], _ => rfl
  | v :: vs, h => by
    show L2.wipe ((L2.wipe σ vs).set v none) us = L2.wipe σ us
    rw [gTs_ok.wipe_set (h v List.mem_cons_self)]
    exact wipe_sub fun i hi => h i (List.mem_cons_of_mem _ hi)
/-! ### [elt for target in iter if test] -/
def goC (env : Ev) (t : Tg) (tt : MT) (te : ME) : List D → List D → S → Res (List D)
  | [], acc, s => .ok acc s
  | d :: ds, acc, s => match t.bind d env with
    | none => .fail
    | some env2 => (tt env2 s).bindN fun b s => if b then (te env2 s).bindN fun e s => (match e with
        | .v y => if acc.length < sizeLine then goC env t tt te ds (acc ++ [y]) s else .fail
        | .b _ => .fail) else goC env t tt te ds acc s
def mComp (mi : MI) (t : Tg) (vs : List Nat) (tt : MT) (te : ME) : ME := fun env s => (mi env s).bind fun p s => (goC (wipeE env vs) t tt te p.2 [] s).bind fun acc s => .ok (.v (.lst acc)) s
theorem comp_core {G : Gam} {t : Tg} {vs : List Nat} {tt : MT} {te : ME} {σ : Sg} {Q : VK} {w1 : Wr} {H1 H0 : Hp} {env : Ev} {s1 : S} {J : It} {ds : List D} {D : Addr} {R : List SR.D → S → Wr → Hp → Prop} {Wx : XW} (hv : ∀ i ∈ t.slots, i ∈ vs) (er1 : EnvRel G H0 w1 H1 env σ) (k1 : Ok G w1 H1 s1)
    (hE : ItE G w1 H1 J ds) (nD : H1 D = none) (p1 : Post G w1 H1 R Wx (goC (wipeE env vs) t tt te ds [] s1))
    (hend : ∀ acc s wl H accv, (∀ w' H', Ext w1 H1 w' H' → Ok G w' H' s → R acc s w' H') → Ext w1 H1 wl H → Ok G wl H s → H D = some (.lst accv) → wl.ph D → ¬ wl.mu D → RpL G wl H acc accv → Q (.ref D) H) :
    ∃ Wv : Nat → Nat → Hp → Prop, (∃ m, Wv 0 m (upd H1 D (.lst []))) ∧ ∀ i m H, Wv i m H →
      (J.stop i H ∧ Q (.ref D) H) ∨ (J.go i H ∧ ∃ Nx : Hp → Prop, (∀ H', Nx H' → ∃ m', m' < m ∧ Wv (i + 1) m' H') ∧ ∀ x H', J.yld i H x H' → gT G.K t x (L2.wipe σ vs) H' fun σ2 H2 => L2.wipe σ2 vs = L2.wipe σ vs ∧ tMT G W0 tt σ2 H2 fun b H3 =>
        if b = true then tM G W0 te σ2 H3 fun y H4 => ∃ acc, H4 D = some (.lst acc) ∧ acc.length < sizeLine ∧ Nx (upd H4 D (.lst (acc ++ [y]))) else Nx H3) := by
  refine ⟨fun i m H => m = ds.length - i ∧ i ≤ ds.length ∧ ∃ wl s acc accv, Ext w1 H1 wl H ∧ Ok G wl H s ∧ H D = some (.lst accv) ∧ wl.ph D ∧ ¬ wl.mu D ∧ RpL G wl H acc accv ∧
    Post G w1 H1 R Wx (goC (wipeE env vs) t tt te (ds.drop i) acc s), ?_, ?_⟩
  · refine ⟨ds.length, rfl, Nat.zero_le _, lockW w1 D, s1, [], [], ?_, k1.lock nD _, upd_same, .inr rfl, fun z => k1.ins D (k1.sub D z) nD, .nil, p1⟩
    exact ((Ext.refl w1 H1).lock nD).put nD _
  · rintro i m H2 ⟨rfl, hi, wl, s2, acc, accv, x2, k2, eD, pD, mD, ra, p2⟩
    have st := hE wl H2 s2 x2 k2 i
    by_cases hlt : i < ds.length
    · have e0 : ds.drop i = ds[i] :: ds.drop (i + 1) := List.drop_eq_getElem_cons hlt
      obtain ⟨go, yl⟩ := st.1 ds[i] (List.getElem?_eq_getElem hlt)
      refine .inr ⟨go, fun H' => i + 1 ≤ ds.length ∧ ∃ wl s acc accv, Ext w1 H1 wl H' ∧ Ok G wl H' s ∧ H' D = some (.lst accv) ∧ wl.ph D ∧ ¬ wl.mu D ∧ RpL G wl H' acc accv ∧
        Post G w1 H1 R Wx (goC (wipeE env vs) t tt te (ds.drop (i + 1)) acc s), fun H' hN => ⟨ds.length - (i + 1), by omega, rfl, hN.1, hN.2⟩, fun x H3 y => ?_⟩
      obtain ⟨x3, k3, rx⟩ := yl x H3 y
      rw [e0] at p2
      unfold goC at p2
      cases et : t.bind ds[i] (wipeE env vs) with
      | none => rw [et] at p2; exact p2.elim
      | some env2 =>
        rw [et] at p2
        have x13 : Ext w1 H1 wl H3 := x2.trans x3
        refine gT_ok (H0 := H0) ((er1.ext k1 x13).wipe vs) rx et fun σ2 er2 hw => ⟨(hw vs hv).trans (wipe_sub fun _ z => z), ?_⟩
        refine ⟨wl, env2, s2, H0, k3, er2, (Post.bindN p2).imp (fun bb s4 w4 H4 x4 k4 p4 => ?_) fun _ _ _ z => z⟩
        have x24 : Ext wl H2 w4 H4 := x3.trans x4
        have eD4 : H4 D = some (.lst accv) := x24.keep D _ eD mD
        have pD4 : w4.ph D := x24.ph1 D pD
        have mD4 : ¬ w4.mu D := fun z => (x24.mu2 D z).elim mD fun q => by rw [eD] at q; cases q
        have ra4 : RpL G w4 H4 acc accv := ra.pass (x24.pass k2)
        cases bb with
        | false =>
          refine iteF ⟨hlt, w4, s4, acc, accv, x2.trans x24, k4, eD4, pD4, mD4, ra4, p4⟩
        | true =>
          refine iteT ?_
          simp only [if_true] at p4
          refine ⟨w4, env2, s4, H0, k4, er2.ext k3 x4, (Post.bindN p4).imp (fun e s5 w5 H5 x5 k5 p5 v r5 => ?_) fun _ _ _ z => z⟩
          cases e with
          | b _ => exact p5.elim
          | v y =>
            dsimp only at p5
            split at p5
            · rename_i hl
              cases r5 with
              | v r5 =>
                have x25 : Ext wl H2 w5 H5 := x24.trans x5
                have eD5 : H5 D = some (.lst accv) := x25.keep D _ eD mD
                have pD5 : w5.ph D := x25.ph1 D pD
                have mD5 : ¬ w5.mu D := fun z => (x25.mu2 D z).elim mD fun q => by rw [eD] at q; cases q
                have ra5 : RpL G w5 H5 (acc ++ [y]) (accv ++ [v]) := (ra.pass (x25.pass k2)).append (.cons r5 .nil)
                refine ⟨accv, eD5, by rw [← ra.length]; exact hl, hlt, w5, s5, acc ++ [y], accv ++ [v], ?_, k5.put pD5 mD5 _, upd_same, pD5, mD5, ra5.pass (Pass.put pD5 _), p5⟩
                exact (x2.trans x25).put nD _
            · exact p5.elim
    · have ei : i = ds.length := by omega
      subst ei
      refine .inl ⟨st.2 (Nat.le_refl _), ?_⟩
      rw [List.drop_length] at p2
      unfold goC at p2
      exact hend acc s2 wl H2 accv p2 x2 k2 eD pD mD ra
theorem tm_comp {G : Gam} {W : WX} {mi : MI} {t : Tg} {vs : List Nat} {tt : MT} {te : ME} (hv : ∀ i ∈ t.slots, i ∈ vs) {σ : Sg} {H : Hp} {Q : VK} (h : tM G W (mComp mi t vs tt te) σ H Q) : tLc (tMI G W mi) (gT G.K t) (tMT G W0 tt) (tM G W0 te) vs σ H Q := by
  obtain ⟨w, env, s, H0, k, er, p⟩ := h
  refine ⟨w, env, s, H0, k, er, (Post.bind p).imp (fun q s1 w1 H1 x1 k1 p1 J hE hP D nD => ?_) fun _ _ _ z => z⟩
  refine comp_core hv (er.ext k x1) k1 hE nD (Post.bind p1) fun acc s wl H accv hR x kk eD pD mD ra => ?_
  exact hR (unlockW wl D) H (x.unlock (k1.nph nD)) (kk.unlock mD) (unlockW wl D) H (Ext.refl _ _) (kk.unlock mD) _ (.v (.lst eD (fun z => z.2 rfl) (ra.pass Pass.unlock)))
end SR

set_option Elab.async false
set_option linter.all false
set_option maxRecDepth 100000
set_option autoImplicit false
/-! Statements. -/
namespace SR
open PySem PySem.Spec PyProof.Rows
open L2 hiding St

inductive Out where
  | nx (env : Ev) | rt (d : D) | bk (env : Ev) | ct (env : Ev) | ex (x : XV) (env : Ev)
abbrev MS := Ev → S → Res Out
/-- the entry of the def, the starts of the loops that run -/
structure Bs where
  w0 : Wr
  H0 : Hp
  L : List (Wr × Hp)
structure Rl (b : Bs) (w : Wr) (H : Hp) : Prop where
  ext : Ext b.w0 b.H0 w H
  pas : ∀ p ∈ b.L, Pass p.1 p.2 w H
theorem Rl.trans {G : Gam} {b : Bs} {w w1 : Wr} {H H1 : Hp} {s : S} (a : Rl b w H) (k : Ok G w H s) (x : Ext w H w1 H1) : Rl b w1 H1 := ⟨Ext.trans a.ext x, fun p hp => ⟨fun i z h => (x.pass k).ids i z ((a.pas p hp).ids i z h), fun z o h n => (x.pass k).keep z o ((a.pas p hp).keep z o h n).1 ((a.pas p hp).keep z o h n).2⟩⟩
theorem Rl.step {b : Bs} {w w1 : Wr} {H H1 : Hp} (a : Rl b w H) (x : Ext b.w0 b.H0 w1 H1) (p : Pass w H w1 H1) : Rl b w1 H1 := ⟨x, fun q hq => ⟨fun i z h => p.ids i z ((a.pas q hq).ids i z h), fun z o h n => p.keep z o ((a.pas q hq).keep z o h n).1 ((a.pas q hq).keep z o h n).2⟩⟩
def PostO (G : Gam) (b : Bs) (Dn : Ends) (W : WX) (s : S) : Out → Prop
  | .nx env => ∀ w H σ, Rl b w H → Ok G w H s → EnvRel G b.H0 w H env σ → Dn.nx σ H
  | .rt d => ∀ w H v, Rl b w H → Ok G w H s → Rp G w H d v → Dn.rt v H
  | .bk env => ∀ w H σ, Rl b w H → Ok G w H s → EnvRel G b.H0 w H env σ → Dn.bk σ H
  | .ct env => ∀ w H σ, Rl b w H → Ok G w H s → EnvRel G b.H0 w H env σ → Dn.ct σ H
  | .ex x env => ∀ w H σ c dx, Rl b w H → Ok G w H s → EnvRel G b.H0 w H env σ → ExRp G w H x c dx → W c dx σ H
def PostS (G : Gam) (b : Bs) (Dn : Ends) (W : WX) : Res Out → Prop
  | .ok o s => PostO G b Dn W s o
  | .exc _ _ => False
  | .ch n k => ∀ r, r < n → PostS G b Dn W (k r)
  | .fail => False
structure At (G : Gam) (b : Bs) (w : Wr) (H : Hp) (env : Ev) (σ : Sg) (s : S) : Prop where
  ext : Rl b w H
  ok : Ok G w H s
  er : EnvRel G b.H0 w H env σ
def tMS (G : Gam) (W : WX) (m : MS) : TS := fun Dn σ H => ∃ b w env s, (∀ a, b.w0.ph a → b.H0 a ≠ none) ∧ At G b w H env σ s ∧ PostS G b Dn W (m env s)
/-- an expression in a statement -/
def bindS {α : Type} (env : Ev) : Res α → (α → S → Res Out) → Res Out
  | .ok a s, f => f a s
  | .exc x s, _ => .ok (.ex x env) s
  | .ch n k, f => .ch n fun r => bindS env (k r) f
  | .fail, _ => .fail
@[simp] theorem ok_bindS {α : Type} (env : Ev) (a : α) (s : S) (f : α → S → Res Out) : bindS env (.ok a s) f = f a s := rfl
@[simp] theorem exc_bindS {α : Type} (env : Ev) (x : XV) (s : S) (f : α → S → Res Out) : bindS env (.exc x s) f = .ok (.ex x env) s := rfl
@[simp] theorem ch_bindS {α : Type} (env : Ev) (n : Nat) (k : Nat → Res α) (f : α → S → Res Out) : bindS env (.ch n k) f = .ch n fun r => bindS env (k r) f := rfl
@[simp] theorem fail_bindS {α : Type} (env : Ev) (f : α → S → Res Out) : bindS env (.fail : Res α) f = .fail := rfl
theorem PostS.bindS {α : Type} {G : Gam} {b : Bs} {w : Wr} {H : Hp} {Dn : Ends} {W : WX} {env : Ev} {σ : Sg} {s0 : S} {f : α → S → Res Out} (a : At G b w H env σ s0) :
    ∀ {m : Res α}, PostS G b Dn W (SR.bindS env m f) → Post G w H (fun x s w1 H1 => At G b w1 H1 env σ s ∧ PostS G b Dn W (f x s)) (fun c d H' => W c d σ H') m
  | .ok x s, h => fun w' H' e o => ⟨⟨a.ext.trans a.ok e, o, a.er.ext a.ok e⟩, h⟩
  | .exc x s, h => fun c dx w' H' e o q => h w' H' σ c dx (a.ext.trans a.ok e) o (a.er.ext a.ok e) q
  | .ch n k, h => fun r hr => PostS.bindS a (m := k r) (h r hr)
  | .fail, h => h.elim

/-! ### return, a dropped value, assignments -/
def sRet (m : ME) : MS := fun env s => bindS env (m env s) fun e s => match e with | .v d => .ok (.rt d) s | .b _ => .fail
theorem js_ret {G : Gam} {X : Cx} {W : WX} {e : Expr} {pos : Pos} {m : ME} (h : PE X e (tM G W m)) : PS X (.Return (some e) pos) (tMS G W (sRet m)) := by
  refine PS.mono (ps_ret h) fun Dn σ H ⟨b, w, env, s, h0, a, p⟩ => ?_
  refine ⟨w, env, s, b.H0, a.ok, a.er, (PostS.bindS a p).imp (fun x s1 w1 H1 x1 k1 ⟨a1, p1⟩ v1 r1 => ?_) fun _ _ _ z => z⟩
  cases x with
  | b _ => exact p1.elim
  | v d =>
    cases r1 with
    | v r1 => exact p1 w1 H1 v1 a1.ext a1.ok r1
def sRetN : MS := fun _ s => .ok (.rt .non) s
theorem js_retN {G : Gam} {X : Cx} {W : WX} {pos : Pos} : PS X (.Return none pos) (tMS G W sRetN) := PS.mono ps_retN fun Dn σ H ⟨b, w, env, s, h0, a, p⟩ => p w H .non a.ext a.ok .non
def sDrop (m : ME) : MS := fun env s => bindS env (m env s) fun _ s => .ok (.nx env) s
theorem js_drop {G : Gam} {X : Cx} {W : WX} {e : Expr} {pos : Pos} {m : ME} (h : PE X e (tM G W m)) (hs : swapsWith e none pos.line X.env = pure false) : PS X (.Expr e pos) (tMS G W (sDrop m)) := by
  refine PS.mono (ps_expr h hs) fun Dn σ H ⟨b, w, env, s, h0, a, p⟩ => ?_
  have hq : tM G W m σ H (fun _ H1 => Dn.nx σ H1) := ⟨w, env, s, b.H0, a.ok, a.er, (PostS.bindS a p).imp (fun x s1 w1 H1 x1 k1 ⟨a1, p1⟩ v1 r1 => p1 w1 H1 σ a1.ext a1.ok a1.er) fun _ _ _ z => z⟩
  exact hq
def sAsg (t : Tg) (m : ME) : MS := fun env s => bindS env (m env s) fun e s => match e with
  | .v d => (match t.bind d env with | some env' => .ok (.nx env') s | none => .fail)
  | .b _ => .fail
theorem tm_asg {G : Gam} {W : WX} {t : Tg} {m : ME} {Dn : Ends} {σ : Sg} {H : Hp} (h : tMS G W (sAsg t m) Dn σ H) : tAsg (tM G W m) (gT G.K t) Dn σ H := by
  obtain ⟨b, w, env, s, h0, a, p⟩ := h
  refine ⟨w, env, s, b.H0, a.ok, a.er, (PostS.bindS a p).imp (fun x s1 w1 H1 x1 k1 ⟨a1, p1⟩ v1 r1 => ?_) fun _ _ _ z => z⟩
  cases x with
  | b _ => exact p1.elim
  | v d =>
    cases r1 with
    | v r1 =>
      dsimp only at p1
      split at p1
      · rename_i env' e
        exact gT_ok a1.er r1 e fun σ' er' _ => p1 w1 H1 σ' a1.ext a1.ok er'
      · exact p1.elim
/-- a new list, not yet shared -/
abbrev MF := Ev → S → Res (List D)
def tMF (G : Gam) (W : WX) (m : MF) : TE := fun σ H Q => ∃ w env s H0, Ok G w H s ∧ EnvRel G H0 w H env σ ∧
  Post G w H (fun ds _ w' H' => ∀ p vs, H p = none → w'.ph p → ¬ w'.mu p → H' p = some (.lst vs) → RpL G w' H' ds vs → Q (.ref p) H') (fun c d H' => W c d σ H') (m env s)
def sOwn (i : Nat) (m : MF) : MS := fun env s => bindS env (m env s) fun ds s => .ok (.nx (env.set i (some (.own (.lst ds))))) s
theorem EnvRel.setOwn {G : Gam} {H0 : Hp} {w : Wr} {H : Hp} {env : Ev} {σ : Sg} {i : Nat} {ds : List D} {vs : List V} {p : Addr} (e : EnvRel G H0 w H env σ) (h0 : H0 p = none) (hp : w.ph p) (hm : ¬ w.mu p) (h : H p = some (.lst vs)) (r : RpL G w H ds vs)
    (nw : ∀ j d, j ≠ i → env[j]? = some (some (.own d)) → σ[j]? ≠ some (some (.ref p))) : EnvRel G H0 w H (env.set i (some (.own (.lst ds)))) (σ.set i (some (.ref p))) := by
  have get : ∀ (j : Nat) (z : Sl), (env.set i (some (.own (.lst ds))))[j]? = some (some z) → (i = j ∧ i < env.length ∧ z = .own (.lst ds)) ∨ (i ≠ j ∧ env[j]? = some (some z)) := fun j z h => by
    by_cases hj : i = j
    · subst hj
      have hl : i < env.length := by
        have := (List.getElem?_eq_some_iff.mp h).1
        rwa [List.length_set] at this
      rw [List.getElem?_set_self hl] at h
      cases h
      exact .inl ⟨rfl, hl, rfl⟩
    · rw [List.getElem?_set_ne hj] at h
      exact .inr ⟨hj, h⟩
  have sg : i < env.length → (σ.set i (some (V.ref p)))[i]? = some (some (.ref p)) := fun hl => List.getElem?_set_self (by rw [← e.len]; exact hl)
  refine ⟨by rw [List.length_set, List.length_set, e.len], fun j d h => ?_, fun j d q => ?_, fun a b d1 d2 q h1 h2 h3 h4 => ?_⟩
  · rcases get j _ h with ⟨_, _, z⟩ | ⟨hj, h⟩
    · cases z
    · rw [List.getElem?_set_ne hj]
      exact e.val j d h
  · rcases get j _ q with ⟨rfl, hl, z⟩ | ⟨hj, q⟩
    · cases z
      exact ⟨p, ds, vs, rfl, sg hl, h, r, hp, hm, h0⟩
    · rw [List.getElem?_set_ne hj]
      exact e.own j d q
  · rcases get a _ h1 with ⟨rfl, hl, _⟩ | ⟨ha, h1⟩
    · rcases get b _ h2 with ⟨rfl, _, _⟩ | ⟨hb, h2⟩
      · rfl
      · rw [sg hl] at h3
        cases h3
        rw [List.getElem?_set_ne hb] at h4
        exact absurd h4 (nw b d2 (Ne.symm hb) h2)
    · rcases get b _ h2 with ⟨rfl, hl, _⟩ | ⟨hb, h2⟩
      · rw [sg hl] at h4
        cases h4
        rw [List.getElem?_set_ne ha] at h3
        exact absurd h3 (nw a d1 (Ne.symm ha) h1)
      · rw [List.getElem?_set_ne ha] at h3
        rw [List.getElem?_set_ne hb] at h4
        exact e.dis a b d1 d2 q h1 h2 h3 h4
theorem tm_own {G : Gam} {W : WX} {i : Nat} {m : MF} {Dn : Ends} {σ : Sg} {H : Hp} (h : tMS G W (sOwn i m) Dn σ H) : tAsg (tMF G W m) (gName i) Dn σ H := by
  obtain ⟨b, w, env, s, h0, a, p⟩ := h
  refine ⟨w, env, s, b.H0, a.ok, a.er, (PostS.bindS a p).imp (fun ds s1 w1 H1 x1 k1 ⟨a1, p1⟩ q vs nq hp hm hq r => ?_) fun _ _ _ z => z⟩
  refine p1 w1 H1 _ a1.ext a1.ok (a1.er.setOwn (a.ext.ext.dom q nq) hp hm hq r fun j d hj hd z => ?_)
  obtain ⟨q', _, vs', _, e1, e2, _⟩ := a.er.own j d hd
  rw [e1] at z
  cases z
  rw [nq] at e2
  cases e2
/-- the forms that make one -/
theorem je_lstF {G : Gam} {X : Cx} {W : WX} {es : List Expr} {pos : Pos} {n : MA} (hm : PE X (.List es pos) (tLst (tMA G W n))) :
    PE X (.List es pos) (tMF G W fun env s => (n env s).bind fun es s => match strict es with | some ds => if ds.length ≤ sizeLine then .ok ds s else .fail | none => .fail) := by
  refine PE.mono hm fun σ H Q ⟨w, env, s, H0, k, er, p⟩ => ?_
  refine ⟨w, env, s, H0, k, er, (Post.bind p).imp (fun x s1 w1 H1 x1 k1 p1 v1 r1 => ?_) fun _ _ _ z => z⟩
  split at p1
  · rename_i ds e
    split at p1
    · rename_i hl
      have r := r1.strict e
      refine ⟨by rw [← r.length]; exact hl, fun a n => ?_⟩
      exact p1 (lockW w1 a) (upd H1 a (.lst v1)) (((Ext.refl w1 H1).lock n).put n _) (k1.lock n _) a v1 (x1.dom a n) (.inr rfl) (fun z => k1.ins a (k1.sub a z) n) upd_same (r.pass (Pass.lock n _))
    · exact p1.elim
  · exact p1.elim
def mLstF (n : MA) : MF := fun env s => (n env s).bind fun es s => match strict es with | some ds => if ds.length ≤ sizeLine then .ok ds s else .fail | none => .fail

/-! ### the slots that are owned -/
def sFrz (i : Nat) (m : MS) : MS := fun env s => match env[i]? with
  | some (some (.own d)) => m (env.set i (some (.v d))) s
  | _ => .fail
theorem tm_frz {G : Gam} {W : WX} {i : Nat} {m : MS} {Dn : Ends} {σ : Sg} {H : Hp} (h : tMS G W (sFrz i m) Dn σ H) : tMS G W m Dn σ H := by
  obtain ⟨b, w, env, s, h0, a, p⟩ := h
  unfold sFrz at p
  split at p
  · rename_i d ei
    obtain ⟨q, ds, vs, rfl, e1, e2, r, hp, hm, z0⟩ := a.er.own i d ei
    have n0 : ¬ b.w0.ph q := fun z => h0 q z z0
    refine ⟨b, unlockW w q, env.set i (some (.v (.lst ds))), s, h0, ⟨a.ext.step (a.ext.ext.unlock n0) Pass.unlock, a.ok.unlock hm, ?_⟩, p⟩
    have er1 : EnvRel G b.H0 w H (env.set i none) σ := by
      have := a.er.drop i (some (.ref q))
      have e : σ.set i (some (.ref q)) = σ := by
        apply List.ext_getElem?
        intro j
        by_cases hj : i = j
        · subst hj
          rw [List.getElem?_set_self (List.getElem?_eq_some_iff.mp e1).1, e1]
        · rw [List.getElem?_set_ne hj]
      rw [e] at this
      exact this
    have er2 : EnvRel G b.H0 (unlockW w q) H (env.set i none) σ := by
      refine ⟨er1.len, fun j d h => ?_, fun j d h => ?_, er1.dis⟩
      · obtain ⟨v, e3, r3⟩ := er1.val j d h
        exact ⟨v, e3, r3.pass Pass.unlock⟩
      · obtain ⟨q', ds', vs', e3, e4, e5, r3, hp', hm', z'⟩ := er1.own j d h
        refine ⟨q', ds', vs', e3, e4, e5, r3.pass Pass.unlock, ⟨hp', fun e => ?_⟩, hm', z'⟩
        subst e
        have hj : env[j]? = some (some (.own d)) := by
          by_cases hj : i = j
          · subst hj
            rw [List.getElem?_set_self (List.getElem?_eq_some_iff.mp ei).1] at h
            cases h
          · rw [List.getElem?_set_ne hj] at h
            exact h
        have e6 := a.er.dis i j _ _ q' ei hj e1 e4
        subst e6
        rw [List.getElem?_set_self (List.getElem?_eq_some_iff.mp ei).1] at h
        cases h
    have er3 := er2.set (i := i) (d := .lst ds) (v := .ref q) (.lst e2 (fun z => z.2 rfl) (r.pass Pass.unlock))
    rw [List.set_set] at er3
    have e : σ.set i (some (.ref q)) = σ := by
      apply List.ext_getElem?
      intro j
      by_cases hj : i = j
      · subst hj
        rw [List.getElem?_set_self (List.getElem?_eq_some_iff.mp e1).1, e1]
      · rw [List.getElem?_set_ne hj]
    rw [e] at er3
    exact er3
  · exact p.elim
/-- an owned list is written -/
theorem At.put {G : Gam} {b : Bs} {w : Wr} {H : Hp} {env : Ev} {σ : Sg} {s : S} {i : Nat} {ds ds' : List D} {vs' : List V} {q : Addr} (a : At G b w H env σ s) (ei : env[i]? = some (some (.own (.lst ds)))) (e1 : σ[i]? = some (some (.ref q)))
    (hp : w.ph q) (hm : ¬ w.mu q) (z0 : b.H0 q = none) (r : RpL G w H ds' vs') : At G b w (upd H q (.lst vs')) (env.set i (some (.own (.lst ds')))) σ s := by
  have P : Pass w H w (upd H q (.lst vs')) := Pass.put hp _
  refine ⟨a.ext.step (a.ext.ext.put z0 _) P, a.ok.put hp hm _, ?_⟩
  have hi := (List.getElem?_eq_some_iff.mp ei).1
  have get : ∀ (j : Nat) (z : Sl), (env.set i (some (.own (.lst ds'))))[j]? = some (some z) → (i = j ∧ z = .own (.lst ds')) ∨ (i ≠ j ∧ env[j]? = some (some z)) := fun j z h => by
    by_cases hj : i = j
    · subst hj
      rw [List.getElem?_set_self hi] at h
      cases h
      exact .inl ⟨rfl, rfl⟩
    · rw [List.getElem?_set_ne hj] at h
      exact .inr ⟨hj, h⟩
  refine ⟨by rw [List.length_set]; exact a.er.len, fun j d h => ?_, fun j d h => ?_, fun x y d1 d2 p h1 h2 h3 h4 => ?_⟩
  · rcases get j _ h with ⟨_, z⟩ | ⟨hj, h⟩
    · cases z
    · obtain ⟨v, e2, r2⟩ := a.er.val j d h
      exact ⟨v, e2, r2.pass P⟩
  · rcases get j _ h with ⟨rfl, z⟩ | ⟨hj, h⟩
    · cases z
      exact ⟨q, ds', vs', rfl, e1, upd_same, r.pass P, hp, hm, z0⟩
    · obtain ⟨q', ds2, vs2, e2, e3, e4, r2, hp', hm', z'⟩ := a.er.own j d h
      have nq : q' ≠ q := fun e => by
        subst e
        exact hj (a.er.dis i j _ _ q' ei h e1 e3)
      exact ⟨q', ds2, vs2, e2, e3, by rw [upd_ne nq]; exact e4, r2.pass P, hp', hm', z'⟩
  · have g : ∀ (j : Nat) (d : D), (env.set i (some (.own (.lst ds'))))[j]? = some (some (.own d)) → ∃ d', env[j]? = some (some (.own d')) := fun j d h => by
      rcases get j _ h with ⟨rfl, _⟩ | ⟨_, h⟩
      · exact ⟨_, ei⟩
      · exact ⟨_, h⟩
    obtain ⟨d1', h1'⟩ := g x d1 h1
    obtain ⟨d2', h2'⟩ := g y d2 h2
    exact a.er.dis x y d1' d2' p h1' h2' h3 h4
/-- x.append(e) -/
def sApp (i : Nat) (m : ME) : MS := fun env s => match env[i]? with
  | some (some (.own (.lst ds))) => bindS env (m env s) fun e s => (match e with
    | .v d => if ds.length < sizeLine then .ok (.nx (env.set i (some (.own (.lst (ds ++ [d])))))) s else .fail
    | .b _ => .fail)
  | _ => .fail
theorem tm_app {G : Gam} {W : WX} {K : PySem.W.Frag} {i : Nat} {m : ME} {Dn : Ends} {σ : Sg} {H : Hp} (h : tMS G W (sApp i m) Dn σ H) : tDrop (tBM K "list" rAppend (tVar i) (tCons (tM G W m) tNil)) Dn σ H := by
  obtain ⟨b, w, env, s, h0, a, p⟩ := h
  unfold sApp at p
  split at p
  · rename_i ds ei
    obtain ⟨q, ds', vs, e0, e1, e2, r, hp, hm, z0⟩ := a.er.own i _ ei
    cases e0
    refine ⟨.ref q, e1, .inl ⟨rfl, vs, .inl (.inl e2)⟩, ?_⟩
    refine ⟨w, env, s, b.H0, a.ok, a.er, (PostS.bindS a p).imp (fun x s1 w1 H1 x1 k1 ⟨a1, p1⟩ v1 r1 => ?_) fun _ _ _ z => z⟩
    cases x with
    | b _ => exact p1.elim
    | v d =>
      dsimp only at p1
      split at p1
      · rename_i hl
        cases r1 with
        | v r1 =>
          have e3 : H1 q = some (.lst vs) := x1.keep q _ e2 hm
          have hm1 : ¬ w1.mu q := fun z => (x1.mu2 q z).elim hm fun y => by rw [e2] at y; cases y
          refine ⟨q, vs, v1, rfl, rfl, e3, by rw [← r.length]; exact hl, ?_⟩
          have a2 := a1.put ei e1 (x1.ph1 q hp) hm1 z0 ((r.pass (x1.pass a.ok)).append (.cons r1 .nil))
          exact p1 w1 _ σ a2.ext a2.ok a2.er
      · exact p1.elim
  · exact p.elim
/-- x[k] = e -/
def sSet (i : Nat) (mk me : ME) : MS := fun env s => bindS env (me env s) fun e s => (match e with
  | .v d => (match env[i]? with
    | some (some (.own (.lst ds))) => bindS env (mk env s) fun x s => (match x.get with
      | .int k => (match ixN ds.length k with
        | some j => .ok (.nx (env.set i (some (.own (.lst (ds.set j d)))))) s
        | none => .fail)
      | _ => .fail)
    | _ => .fail)
  | .b _ => .fail)
theorem tm_set {G : Gam} {W : WX} {i : Nat} {mk me : ME} {Dn : Ends} {σ : Sg} {H : Hp} (h : tMS G W (sSet i mk me) Dn σ H) : tAsg (tM G W me) (gSub (tVar i) (tM G W mk) rSetL) Dn σ H := by
  obtain ⟨b, w, env, s, h0, a, p⟩ := h
  refine ⟨w, env, s, b.H0, a.ok, a.er, (PostS.bindS a p).imp (fun x s1 w1 H1 x1 k1 ⟨a1, p1⟩ v1 r1 => ?_) fun _ _ _ z => z⟩
  cases x with
  | b _ => exact p1.elim
  | v d =>
    cases r1 with
    | v r1 =>
      dsimp only at p1
      split at p1
      · rename_i ds ei
        obtain ⟨q, ds', vs, e0, e1, e2, r, hp, hm, z0⟩ := a1.er.own i _ ei
        cases e0
        refine ⟨.ref q, e1, ?_⟩
        refine ⟨w1, env, s1, b.H0, a1.ok, a1.er, (PostS.bindS a1 p1).imp (fun y s2 w2 H2 x2 k2 ⟨a2, p2⟩ v2 r2 => ?_) fun _ _ _ z => z⟩
        split at p2
        · rename_i kk ek
          split at p2
          · rename_i j ej
            have e3 : H2 q = some (.lst vs) := x2.keep q _ e2 hm
            have hm2 : ¬ w2.mu q := fun z => (x2.mu2 q z).elim hm fun y => by rw [e2] at y; cases y
            refine ⟨q, vs, kk, j, rfl, r2.int ek, e3, by rw [← r.length]; exact ej, ?_⟩
            have a3 := a2.put ei e1 (x2.ph1 q hp) hm2 z0 ((r.pass (x2.pass a1.ok)).set (r1.pass (x2.pass a1.ok)) j)
            exact p2 w2 _ σ a3.ext a3.ok a3.er
          · exact p2.elim
        · exact p2.elim
      · exact p1.elim

/-! ### blocks -/
def sNil : MS := fun env s => .ok (.nx env) s
def thenS : Res Out → MS → Res Out
  | .ok (.nx env) s, n => n env s
  | .ok o s, _ => .ok o s
  | .exc x s, _ => .exc x s
  | .ch n k, m => .ch n fun r => thenS (k r) m
  | .fail, _ => .fail
def sSeq (m n : MS) : MS := fun env s => thenS (m env s) n
theorem PostS.then {G : Gam} {b : Bs} {Dn : Ends} {W : WX} {n : MS} (h0 : ∀ a, b.w0.ph a → b.H0 a ≠ none) : ∀ {r : Res Out}, PostS G b Dn W (thenS r n) → PostS G b { Dn with nx := tMS G W n Dn } W r
  | .ok (.nx env) s, h => fun w H σ x k er => ⟨b, w, env, s, h0, ⟨x, k, er⟩, h⟩
  | .ok (.rt d) s, h => h
  | .ok (.bk env) s, h => h
  | .ok (.ct env) s, h => h
  | .ok (.ex x env) s, h => h
  | .exc _ _, h => h.elim
  | .ch _ k, h => fun r hr => PostS.then h0 (r := k r) (h r hr)
  | .fail, h => h.elim
theorem js_nil {G : Gam} {X : Cx} {W : WX} : PSs X [] (tMS G W sNil) := PSs.mono pss_nil fun Dn σ H ⟨b, w, env, s, h0, a, p⟩ => p w H σ a.ext a.ok a.er
theorem js_cons {G : Gam} {X : Cx} {W : WX} {st : Stmt} {rest : List Stmt} {m n : MS} (h : PS X st (tMS G W m)) (h' : PSs X rest (tMS G W n)) : PSs X (st :: rest) (tMS G W (sSeq m n)) :=
  PSs.mono (pss_cons h h') fun Dn σ H ⟨b, w, env, s, h0, a, p⟩ => ⟨b, w, env, s, h0, a, PostS.then h0 p⟩
def sIf (t : MT) (a b : MS) : MS := fun env s => bindS env (t env s) fun c s => if c then a env s else b env s
theorem js_if {G : Gam} {X : Cx} {W : WX} {c : Expr} {x y : List Stmt} {pos : Pos} {t : MT} {m n : MS} (hc : PT X c (tMT G W t)) (hx : PSs X x (tMS G W m)) (hy : PSs X y (tMS G W n)) : PS X (.If c x y pos) (tMS G W (sIf t m n)) := by
  refine PS.mono (ps_if hc hx hy) fun Dn σ H ⟨b, w, env, s, h0, a, p⟩ => ?_
  refine ⟨w, env, s, b.H0, a.ok, a.er, (PostS.bindS a p).imp (fun b s1 w1 H1 x1 k1 ⟨a1, p1⟩ => ?_) fun _ _ _ z => z⟩
  cases b with
  | true => exact iteT ⟨b, w1, env, s1, h0, a1, p1⟩
  | false => exact iteF ⟨b, w1, env, s1, h0, a1, p1⟩
def sPass : MS := fun env s => .ok (.nx env) s
def sBreak : MS := fun env s => .ok (.bk env) s
def sCont : MS := fun env s => .ok (.ct env) s
theorem js_pass {G : Gam} {X : Cx} {W : WX} {pos : Pos} : PS X (.Pass pos) (tMS G W sPass) := PS.mono ps_pass fun Dn σ H ⟨b, w, env, s, h0, a, p⟩ => p w H σ a.ext a.ok a.er
theorem js_break {G : Gam} {X : Cx} {W : WX} {pos : Pos} : PS X (.Break pos) (tMS G W sBreak) := PS.mono ps_break fun Dn σ H ⟨b, w, env, s, h0, a, p⟩ => p w H σ a.ext a.ok a.er
theorem js_cont {G : Gam} {X : Cx} {W : WX} {pos : Pos} : PS X (.Continue pos) (tMS G W sCont) := PS.mono ps_continue fun Dn σ H ⟨b, w, env, s, h0, a, p⟩ => p w H σ a.ext a.ok a.er

/-! ### loops -/
/-- for target in ds: body -/
def goF (t : Tg) (body : MS) : List D → MS
  | [], env, s => .ok (.nx env) s
  | d :: ds, env, s => match t.bind d env with
    | none => .fail
    | some env2 => turnF (body env2 s) (goF t body ds)
where
  /-- behind a turn -/
  turnF : Res Out → MS → Res Out
    | .ok (.nx env) s, n => n env s
    | .ok (.ct env) s, n => n env s
    | .ok (.bk env) s, _ => .ok (.nx env) s
    | .ok (.rt d) s, _ => .ok (.rt d) s
    | .ok (.ex x env) s, _ => .ok (.ex x env) s
    | .exc x s, _ => .exc x s
    | .ch n k, m => .ch n fun r => turnF (k r) m
    | .fail, _ => .fail
def sFor (mi : MI) (t : Tg) (body : MS) : MS := fun env s => bindS env (mi env s) fun p s => if p.1 then goF t body p.2 env s else .fail
theorem At.pass {G : Gam} {b : Bs} {w w1 : Wr} {H H1 : Hp} {env : Ev} {σ : Sg} {s : S} (a : At G b w H env σ s) (x : Ext w H w1 H1) (k : Ok G w1 H1 s) : At G b w1 H1 env σ s := ⟨a.ext.trans a.ok x, k, a.er.ext a.ok x⟩
def Bs.add (b : Bs) (w : Wr) (H : Hp) : Bs := { b with L := (w, H) :: b.L }
theorem Rl.less {b : Bs} {wi w : Wr} {Hi H : Hp} (a : Rl (b.add wi Hi) w H) : Rl b w H := ⟨a.ext, fun p hp => a.pas p (List.mem_cons_of_mem _ hp)⟩
theorem PostS.turn {G : Gam} {b : Bs} {wi : Wr} {Hi : Hp} {Dn : Ends} {W : WX} {n : MS} {N : Sg → Hp → Prop} (hN : ∀ env s w H σ, PostS G b Dn W (n env s) → Rl (b.add wi Hi) w H → Ok G w H s → EnvRel G b.H0 w H env σ → N σ H) :
    ∀ {r : Res Out}, PostS G b Dn W (goF.turnF r n) → PostS G (b.add wi Hi) { Dn with nx := N, ct := N, bk := Dn.nx } W r
  | .ok (.nx env) s, h => fun w H σ x k er => hN env s w H σ h x k er
  | .ok (.rt d) s, h => fun w H v x k r => h w H v x.less k r
  | .ok (.bk env) s, h => fun w H σ x k er => h w H σ x.less k er
  | .ok (.ct env) s, h => fun w H σ x k er => hN env s w H σ h x k er
  | .ok (.ex y env) s, h => fun w H σ c dx x k er q => h w H σ c dx x.less k er q
  | .exc _ _, h => h.elim
  | .ch _ k, h => fun r hr => PostS.turn hN (r := k r) (h r hr)
  | .fail, h => h.elim
theorem PostS.add {G : Gam} {b : Bs} {wi : Wr} {Hi : Hp} {Dn : Ends} {W : WX} : ∀ {r : Res Out}, PostS G b Dn W r → PostS G (b.add wi Hi) Dn W r
  | .ok (.nx env) s, h => fun w H σ x k er => h w H σ x.less k er
  | .ok (.rt d) s, h => fun w H v x k r => h w H v x.less k r
  | .ok (.bk env) s, h => fun w H σ x k er => h w H σ x.less k er
  | .ok (.ct env) s, h => fun w H σ x k er => h w H σ x.less k er
  | .ok (.ex y env) s, h => fun w H σ c dx x k er q => h w H σ c dx x.less k er q
  | .exc _ _, h => h.elim
  | .ch _ k, h => fun r hr => PostS.add (r := k r) (h r hr)
  | .fail, h => h.elim
theorem tm_for {G : Gam} {W : WX} {mi : MI} {t : Tg} {body : MS} {Dn : Ends} {σ : Sg} {H : Hp} (h : tMS G W (sFor mi t body) Dn σ H) : tFor (tMI G W mi) (gT G.K t) (tMS G W body) Dn σ H := by
  obtain ⟨b, w, env, s, h0, a, p⟩ := h
  refine ⟨w, env, s, b.H0, a.ok, a.er, (PostS.bindS a p).imp (fun q s1 w1 H1 x1 k1 ⟨a1, p1⟩ J hE hP => ?_) fun _ _ _ z => z⟩
  obtain ⟨bb, ds⟩ := q
  cases bb with
  | false => exact p1.elim
  | true =>
    have hP := hP rfl
    refine ⟨fun i m σ H => m = ds.length - i ∧ i ≤ ds.length ∧ ∃ w s env, At G (b.add w1 H1) w H env σ s ∧ PostS G b Dn W (goF t body (ds.drop i) env s), ?_, ?_⟩
    · exact ⟨ds.length, rfl, Nat.zero_le _, w1, s1, env, ⟨⟨a1.ext.ext, fun p hp => (List.mem_cons.mp hp).elim (fun e => by rw [e]; exact Pass.refl _ _) fun z => a1.ext.pas p z⟩, a1.ok, a1.er⟩, p1⟩
    · rintro i m σ2 H2 ⟨rfl, hi, w2, s2, env2, a2, p2⟩
      have st := hP w2 H2 s2 (a2.ext.pas (w1, H1) List.mem_cons_self) a2.ok i
      by_cases hlt : i < ds.length
      · have e0 : ds.drop i = ds[i] :: ds.drop (i + 1) := List.drop_eq_getElem_cons hlt
        obtain ⟨go, yl⟩ := st.1 ds[i] (List.getElem?_eq_getElem hlt)
        refine .inr ⟨go, fun σ' H' => ∃ w s env, At G (b.add w1 H1) w H' env σ' s ∧ PostS G b Dn W (goF t body (ds.drop (i + 1)) env s), fun σ' H' hN => ⟨ds.length - (i + 1), by omega, rfl, hlt, hN⟩, fun x H3 y => ?_⟩
        obtain ⟨x3, k3, rx⟩ := yl x H3 y
        have a3 := a2.pass x3 k3
        rw [e0] at p2
        unfold goF at p2
        cases et : t.bind ds[i] env2 with
        | none => rw [et] at p2; exact p2.elim
        | some env3 =>
          rw [et] at p2
          refine gT_ok a3.er rx et fun σ4 er4 _ => ?_
          refine ⟨b.add w1 H1, w2, env3, s2, h0, ⟨a3.ext, a3.ok, er4⟩, ?_⟩
          exact PostS.turn (n := goF t body (ds.drop (i + 1))) (fun env s w H σ h x k er => ⟨w, s, env, ⟨x, k, er⟩, h⟩) p2
      · have ei : i = ds.length := by omega
        subst ei
        rw [List.drop_length] at p2
        exact .inl ⟨st.2 (Nat.le_refl _), p2 w2 H2 σ2 a2.ext.less a2.ok a2.er⟩
end SR

set_option Elab.async false
set_option linter.all false
set_option maxRecDepth 100000
set_option autoImplicit false
set_option maxHeartbeats 4000000
/-! Errors as values: isinstance, fields. -/
namespace SR
open PySem PySem.Spec PyProof.Rows
open L2 hiding St
theorem exo_inst {X : Cx} {pins : List (Addr × Obj)} {σ : Sg} {H : Hp} {s : Shared} {a C : Addr} {d : Option Addr} (I : Inv X pins σ H s) (ha : H a = some (exo a C d)) (hd : ∀ dd, d = some dd → ∃ fs, H dd = some (exd dd fs)) :
    ∃ ox od, PySem.W.InstAt s.heap a ox C od := by
  obtain ⟨t1, ho⟩ := exo_at I.hok ha
  cases d with
  | none => exact ⟨_, none, ho, rfl, rfl, trivial⟩
  | some dd =>
    obtain ⟨fs, hf⟩ := hd dd rfl
    obtain ⟨mA, hns, hr⟩ := exd_at I.hok hf
    obtain ⟨od, h1, _⟩ := lookIn_ns hns
    exact ⟨_, some od, ho, rfl, rfl, h1⟩
def rIsX (K : PySem.W.Frag) : RL := fun xs H Q => ∃ (a C : Addr) (d : Option Addr) (c : V) (u : Value) (b : Bool), xs = [.ref a, c] ∧ H a = some (exo a C d) ∧ (∀ dd, d = some dd → ∃ fs, H dd = some (exd dd fs)) ∧ ClsV c u ∧ ExcC K C ∧ PySem.W.kitOne K (.ref C) u = some b ∧ Q (.bl b) H
theorem call_isX {X : Cx} : CallR X (.builtin "isinstance") (rIsX X.K) := by
  intro pins s σ H xs us Q I r h
  obtain ⟨a, C, d, c, u, b, rfl, ha, hd, hc, T, e, q⟩ := h
  obtain ⟨u1, u2, rfl, r1, r2⟩ := vals2 r
  cases (show u1 = Value.ref a from r1)
  have e2 := hc.eq r2
  subst e2
  obtain ⟨ox, od, J⟩ := exo_inst I ha hd
  have hcl : (PySem.W.clsIn X.K C).isSome = true := by
    obtain ⟨cd, hc, _⟩ := PySem.W.any_some T.hd
    rw [hc]; rfl
  exact PySem.W.kia_one (PySem.W.kitx_exc hcl T.hg T.hk T.hs T.ha T.hn T.ht T.hm) I.kIn J e (fun z => nomatch z) fun tk => ⟨.bl b, H, I.kept (t' := tk) fun _ _ z => z, rfl, q⟩
def tXv (K : PySem.W.Frag) (n : Str) (te : TE) : TE := fun σ H Q => te σ H fun x H1 => ∃ (a C d : Addr) (fs : List (Str × V)) (v : V), x = .ref a ∧ H1 a = some (exo a C (some d)) ∧ H1 d = some (exd d fs) ∧ XfC K C ∧ PySem.W.findIn K (.ref C) n = some none ∧ fs.lookup n = some v ∧ Q v H1
theorem pe_xv {X : Cx} {e : Expr} {te : TE} {pos : Pos} {n : Str} (he : PE X e te) (hb : attributeBase e n X.env (eval e X.env) = eval e X.env := by rfl) : PE X (.Attribute e n pos) (tXv X.K n te) := by
  refine ⟨fun pins s σ H Q I h => ?_⟩
  refine attr_of hb (thn (he.run pins s σ H _ I h) fun u s1 hh => ?_)
  obtain ⟨x, H1, I1, rx, a, C, d, fs, v, ex, ha, hd, T, hno, hl, q⟩ := hh
  subst ex
  obtain rfl : u = Value.ref a := rx
  obtain ⟨t1, ho⟩ := exo_at I1.hok ha
  obtain ⟨mA, hns, hr⟩ := exd_at I1.hok hd
  obtain ⟨od, h1, h2⟩ := lookIn_ns hns
  obtain ⟨u, hu, ru⟩ := RelO.some_of (v := v) (o := mA n) (by rw [← hl]; exact hr n)
  have J : PySem.W.InstAt s1.heap a _ C (some od) := ⟨ho, rfl, rfl, h1⟩
  exact HandSPX.exc_get I1.kIn J T.ga T.gg T.exC (PySem.W.findObj_own T.hdC hno rfl (by rw [h2, hu])) (handed_of ru) ⟨v, H1, I1.tok _, ru, q⟩
end SR

set_option Elab.async false
set_option linter.all false
set_option maxRecDepth 100000
set_option autoImplicit false
set_option maxHeartbeats 4000000
/-! Objects that change. -/
namespace SR
open PySem PySem.Spec PyProof.Rows
open L2 hiding St
/-- a world with one object more -/
def objW (w : Wr) (a : Addr) : Wr := ⟨w.rho ++ [a], fun z => w.mu z ∨ z = a, fun z => w.ph z ∨ z = a⟩
def AO.ho : AO → HO → Prop
  | .lst _, .lst _ => True
  | .dct _, .dK _ => True
  | _, _ => False
section
variable {G : Gam} {w : Wr} {H : Hp} {s : S} {a : Addr}
theorem Ext.obj (n : H a = none) (o : HO) : Ext w H (objW w a) (upd H a o) where
  ids := ⟨[a], rfl⟩
  ph1 := fun _ h => .inl h
  ph2 := fun z h => h.elim .inl fun e => .inr (e ▸ n)
  mu1 := fun _ h => .inl h
  mu2 := fun z h => h.elim .inl fun e => .inr (e ▸ n)
  keep := fun z u h _ => by rw [upd_ne (ne_of_none h n)]; exact h
  dom := fun z h => by
    by_cases e : z = a
    · rw [e]; exact n
    · rw [upd_ne e] at h; exact h
theorem Ok.obj (k : Ok G w H s) (n : H a = none) (o : HO) (ao : AO) (r : AORp G (objW w a) (upd H a o) a ao) : Ok G (objW w a) (upd H a o) { s with objs := s.objs ++ [ao] } := by
  have kk : ∀ z u, H z = some u → upd H a o z = some u := fun z u h => by rw [upd_ne (ne_of_none h n)]; exact h
  have hr : a ∉ w.rho := fun h => k.ins a (k.sub a (k.rmu a h)) n
  refine ⟨fun z h => h.elim (fun h => .inl (k.sub z h)) .inr, fun z h => ?_, ?_, ?_, fun z h => ?_, fun i z u h1 h2 => ?_, ?_⟩
  · rcases h with h | rfl
    · intro e
      exact k.ins z h ((Ext.obj (w := w) n o).dom z e)
    · rw [upd_same]
      exact fun z => nomatch z
  · show (w.rho ++ [a]).length = (s.objs ++ [ao]).length
    rw [List.length_append, List.length_append, k.len]
    rfl
  · show (w.rho ++ [a]).Nodup
    rw [List.nodup_append]
    exact ⟨k.nd, by simp, fun x hx y hy => by rw [List.mem_singleton.mp hy]; exact fun e => hr (e ▸ hx)⟩
  · rcases List.mem_append.mp h with h | h
    · exact .inl (k.rmu z h)
    · exact .inr (List.mem_singleton.mp h)
  · have h1 : (w.rho ++ [a])[i]? = some z := h1
    have h2 : (s.objs ++ [ao])[i]? = some u := h2
    by_cases hi : i < w.rho.length
    · rw [List.getElem?_append_left hi] at h1
      rw [List.getElem?_append_left (by rw [← k.len]; exact hi)] at h2
      exact (k.objs i z u h1 h2).pass ((Ext.obj n o).pass k) (kk z)
    · have : i = w.rho.length := by
        have := (List.getElem?_eq_some_iff.mp h1).1
        rw [List.length_append, List.length_singleton] at this
        omega
      subst this
      rw [List.getElem?_append_right (Nat.le_refl _), Nat.sub_self] at h1
      rw [k.len, List.getElem?_append_right (Nat.le_refl _), Nat.sub_self] at h2
      cases h1
      cases h2
      exact r
  · exact k.draw.keep (fun z u h _ h' => ⟨kk z u h, fun q => (List.mem_append.mp q).elim h' fun q => by rw [List.mem_singleton.mp q, n] at h; cases h⟩) fun _ h => .inl h
theorem Rp.newO {o : HO} (k : Ok G w H s) : Rp G (objW w a) (upd H a o) (.obj s.objs.length) (.ref a) := .obj (by
  show (w.rho ++ [a])[s.objs.length]? = some a
  rw [← k.len, List.getElem?_append_right (Nat.le_refl _), Nat.sub_self]
  rfl)
end
/-! ### an object is changed -/
section
variable {G : Gam} {w : Wr} {H : Hp} {s : S} {a : Addr}
theorem Ext.write (hm : w.mu a) (o : HO) (hin : H a ≠ none) : Ext w H w (upd H a o) where
  ids := ⟨[], by simp⟩
  ph1 := fun _ h => h
  ph2 := fun _ h => .inl h
  mu1 := fun _ h => h
  mu2 := fun _ h => .inl h
  keep := fun z u h n => by rw [upd_ne (fun (e : z = a) => n (e ▸ hm))]; exact h
  dom := fun z h => by
    by_cases e : z = a
    · rw [e, upd_same] at h; cases h
    · rw [upd_ne e] at h; exact h
theorem Ok.write {i : Nat} (k : Ok G w H s) (hi : w.rho[i]? = some a) (o : HO) (ao : AO) (r : AORp G w (upd H a o) a ao) : Ext w H w (upd H a o) ∧ Ok G w (upd H a o) { s with objs := s.objs.set i ao } := by
  have hmem := List.mem_of_getElem? hi
  have hm := k.rmu a hmem
  have hin := k.ins a (k.sub a hm)
  have x := Ext.write (w := w) (H := H) hm o hin
  refine ⟨x, k.sub, fun z h e => k.ins z h (x.dom z e), ?_, k.nd, k.rmu, fun j z u h1 h2 => ?_, ?_⟩
  · rw [k.len]
    show s.objs.length = (s.objs.set i ao).length
    rw [List.length_set]
  · have h2 : (s.objs.set i ao)[j]? = some u := h2
    by_cases e : i = j
    · subst e
      have hl : i < s.objs.length := by rw [← k.len]; exact (List.getElem?_eq_some_iff.mp hi).1
      rw [List.getElem?_set_self hl] at h2
      rw [hi] at h1
      cases h1
      cases h2
      exact r
    · rw [List.getElem?_set_ne e] at h2
      have hz : z ≠ a := fun q => e (by
        subst q
        have l1 := (List.getElem?_eq_some_iff.mp hi).1
        have l2 := (List.getElem?_eq_some_iff.mp h1).1
        exact (List.getElem_inj k.nd (h₀ := l1) (h₁ := l2)).mp ((List.getElem?_eq_some_iff.mp hi).2.trans (List.getElem?_eq_some_iff.mp h1).2.symm))
      exact (k.objs j z u h1 h2).pass (x.pass k) fun v h => by rw [upd_ne hz]; exact h
  · exact k.draw.keep (fun z u h _ h' => ⟨by rw [upd_ne (fun (e : z = a) => h' (e ▸ hmem))]; exact h, h'⟩) fun _ h => h
end
/-- a list display as an object -/
def mNewL (n : MA) : ME := fun env s => (n env s).bind fun es s => match strict es with
  | some ds => if ds.length ≤ sizeLine then .ok (.v (.obj s.objs.length)) { s with objs := s.objs ++ [.lst ds] } else .fail
  | none => .fail
theorem je_newL {G : Gam} {X : Cx} {W : WX} {es : List Expr} {pos : Pos} {n : MA} (hm : PE X (.List es pos) (tLst (tMA G W n))) : PE X (.List es pos) (tM G W (mNewL n)) := by
  refine PE.mono hm fun σ H Q ⟨w, env, s, H0, k, er, p⟩ => ?_
  refine ⟨w, env, s, H0, k, er, (Post.bind p).imp (fun x s1 w1 H1 x1 k1 p1 v1 r1 => ?_) fun _ _ _ z => z⟩
  split at p1
  · rename_i ds e
    split at p1
    · rename_i hl
      have r := r1.strict e
      refine ⟨by rw [← r.length]; exact hl, fun a n => ?_⟩
      exact p1 (objW w1 a) (upd H1 a (.lst v1)) (Ext.obj n _) (k1.obj n _ _ ⟨v1, upd_same, r.pass ((Ext.obj n _).pass k1)⟩) _ (.v (Rp.newO k1))
    · exact p1.elim
  · exact p1.elim
/-- o.append(e), o an object -/
def mAppO (mo me : ME) : ME := fun env s => (mo env s).bind fun o s => match o.get with
  | .obj i => (match s.objs[i]? with
    | some (.lst _) => (me env s).bind fun e s => (match e, s.objs[i]? with
      | .v d, some (.lst ds) => if ds.length < sizeLine then .ok (.v .non) { s with objs := s.objs.set i (.lst (ds ++ [d])) } else .fail
      | _, _ => .fail)
    | _ => .fail)
  | _ => .fail
theorem RpE.obj {G : Gam} {w : Wr} {H : Hp} {e : EV} {i : Nat} {v : V} (h : RpE G w H e v) (q : e.get = .obj i) : ∃ a, v = .ref a ∧ w.rho[i]? = some a := by
  cases h with
  | v h => cases q; cases h; exact ⟨_, rfl, by assumption⟩
  | b h n f r => cases q
theorem tm_appO {G : Gam} {W : WX} {K : PySem.W.Frag} {mo me : ME} {σ : Sg} {H : Hp} {Q : VK} (h : tM G W (mAppO mo me) σ H Q) : tBM K "list" rAppend (tM G W mo) (tCons (tM G W me) tNil) σ H Q := by
  obtain ⟨w, env, s, H0, k, er, p⟩ := h
  refine ⟨w, env, s, H0, k, er, (Post.bind p).imp (fun o s1 w1 H1 x1 k1 p1 v1 r1 => ?_) fun _ _ _ z => z⟩
  split at p1
  · rename_i i eo
    obtain ⟨a, rfl, hi⟩ := r1.obj eo
    split at p1
    · rename_i ds0 e0
      obtain ⟨vs0, h0, _⟩ := k1.objs i a _ hi e0
      refine ⟨.inl ⟨rfl, vs0, .inl (.inl h0)⟩, ?_⟩
      refine ⟨w1, env, s1, H0, k1, er.ext k x1, (Post.bind p1).imp (fun e s2 w2 H2 x2 k2 p2 v2 r2 => ?_) fun _ _ _ z => z⟩
      split at p2
      · rename_i d ds e1
        split at p2
        · rename_i hl
          have hi2 : w2.rho[i]? = some a := (x2.pass k1).ids i a hi
          obtain ⟨vs, hv, rv⟩ := k2.objs i a _ hi2 e1
          cases r2 with
          | v r2 =>
            refine ⟨a, vs, v2, rfl, rfl, hv, by rw [← rv.length]; exact hl, ?_⟩
            have hm := k2.rmu a (List.mem_of_getElem? hi2)
            have xx := Ext.write (w := w2) (H := H2) hm (.lst (vs ++ [v2])) (k2.ins a (k2.sub a hm))
            obtain ⟨x3, k3⟩ := k2.write hi2 (.lst (vs ++ [v2])) (.lst (ds ++ [d])) ⟨_, upd_same, (rv.pass (xx.pass k2)).append (.cons (r2.pass (xx.pass k2)) .nil)⟩
            exact p2 w2 _ x3 k3 _ (.v .non)
        · exact p2.elim
      · exact p2.elim
    · exact p1.elim
  · exact p1.elim
end SR

set_option Elab.async false
set_option linter.all false
set_option maxRecDepth 100000
set_option autoImplicit false
set_option maxHeartbeats 4000000
/-! Dicts: displays, subscripts, entries stored. -/
namespace SR
open PySem PySem.Spec PyProof.Rows
open L2 hiding St
/-! ### entries -/
def RpK {κ : Type} (G : Gam) (w : Wr) (H : Hp) (ds : List (κ × D)) (vs : List (κ × V)) : Prop := ds.map (·.1) = vs.map (·.1) ∧ RpL G w H (ds.map (·.2)) (vs.map (·.2))
def putD {κ : Type} [DecidableEq κ] (kvs : List (κ × D)) (k : κ) (v : D) : List (κ × D) :=
  if (kvs.any fun kv => decide (kv.1 = k)) = true then kvs.map (fun kv => if kv.1 = k then (kv.1, v) else kv) else kvs ++ [(k, v)]
def mergeD (kvs more : List (Key × D)) : List (Key × D) := more.foldl (fun acc kv => putD acc kv.1 kv.2) kvs
section
variable {G : Gam} {w w' : Wr} {H H' : Hp} {κ : Type}
theorem RpK.nil : RpK (κ := κ) G w H [] [] := ⟨rfl, .nil⟩
theorem RpK.cons {k : κ} {d : D} {v : V} {ds : List (κ × D)} {vs : List (κ × V)} (h : Rp G w H d v) (t : RpK G w H ds vs) : RpK G w H ((k, d) :: ds) ((k, v) :: vs) := ⟨by simp [t.1], .cons h t.2⟩
theorem RpK.pass (p : Pass w H w' H') {ds : List (κ × D)} {vs : List (κ × V)} (h : RpK G w H ds vs) : RpK G w' H' ds vs := ⟨h.1, h.2.pass p⟩
theorem RpK.length {ds : List (κ × D)} {vs : List (κ × V)} (h : RpK G w H ds vs) : ds.length = vs.length := by simpa using congrArg List.length h.1
theorem RpK.uncons {p : κ × D} {ds : List (κ × D)} {vs : List (κ × V)} (h : RpK G w H (p :: ds) vs) : ∃ v us, vs = (p.1, v) :: us ∧ Rp G w H p.2 v ∧ RpK G w H ds us := by
  obtain ⟨e, r⟩ := h
  cases vs with
  | nil => cases e
  | cons q us =>
    simp only [List.map_cons, List.cons.injEq] at e
    cases r with
    | cons r1 r2 => exact ⟨q.2, us, by rw [e.1], r1, e.2, r2⟩
theorem RpK.put [DecidableEq κ] {ds : List (κ × D)} {vs : List (κ × V)} (h : RpK G w H ds vs) {k : κ} {d : D} {v : V} (r : Rp G w H d v) : RpK G w H (putD ds k d) (putK vs k v) := by
  have e : (ds.any fun kv => decide (kv.1 = k)) = vs.any fun kv => decide (kv.1 = k) := by
    have := congrArg (fun l : List κ => l.any fun x => decide (x = k)) h.1
    simp only [List.any_map] at this
    exact this
  unfold putD putK
  rw [e]
  split
  · have gen : ∀ {ds : List (κ × D)} {vs : List (κ × V)}, RpK G w H ds vs → RpK G w H (ds.map fun kv => if kv.1 = k then (kv.1, d) else kv) (vs.map fun kv => if kv.1 = k then (kv.1, v) else kv) := by
      intro ds
      induction ds with
      | nil =>
        intro vs h
        cases vs with
        | nil => exact .nil
        | cons _ _ => cases h.1
      | cons p ds ih =>
        intro vs h
        obtain ⟨u, us, rfl, r1, t⟩ := h.uncons
        obtain ⟨k', d'⟩ := p
        simp only [List.map_cons]
        by_cases hk : k' = k
        · simp only [hk, if_true]; exact .cons r (ih t)
        · simp only [hk, if_false]; exact .cons r1 (ih t)
    exact gen h
  · refine ⟨by simp [h.1], ?_⟩
    simp only [List.map_append, List.map_cons, List.map_nil]
    exact h.2.append (.cons r .nil)
theorem RpK.merge : ∀ {ms : List (Key × D)} {us : List (Key × V)} {ds : List (Key × D)} {vs : List (Key × V)}, RpK G w H ds vs → RpK G w H ms us → RpK G w H (mergeD ds ms) (mergeK vs us)
  | [], us, ds, vs, h, m => by
    cases us with
    | nil => exact h
    | cons _ _ => cases m.1
  | (k, d) :: ms, us, ds, vs, h, m => by
    obtain ⟨v, us, rfl, r, t⟩ := m.uncons
    show RpK G w H (mergeD (putD ds k d) ms) (mergeK (putK vs k v) us)
    exact RpK.merge (ms := ms) (h.put r) t
end
def keyD : D → Option Key
  | .int i => some (.inl i)
  | .str x => some (.inr x)
  | _ => none
theorem keyD_some {G : Gam} {w : Wr} {H : Hp} {d : D} {v : V} {k : Key} (h : keyD d = some k) (r : Rp G w H d v) : v = kV k := by
  cases r with
  | int i => cases h; rfl
  | str x => cases h; rfl
  | _ => cases h
def pairsD : List D → Option (List (Key × D))
  | [] => some []
  | [_] => none
  | k :: v :: r => match keyD k, pairsD r with
    | some kk, some ps => some ((kk, v) :: ps)
    | _, _ => none
def flatP : List (V × V) → List V
  | [] => []
  | (x, y) :: r => x :: y :: flatP r
theorem pairs_rel {G : Gam} {w : Wr} {H : Hp} : ∀ {ds : List D} {kvs : List (Key × D)} {ps : List (V × V)}, RpL G w H ds (flatP ps) → pairsD ds = some kvs → ∃ us : List (Key × V), ps = us.map (fun kv => (kV kv.1, kv.2)) ∧ RpK G w H kvs us
  | [], kvs, ps, r, h => by
    cases h
    cases ps with
    | nil => exact ⟨[], rfl, .nil⟩
    | cons p ps => cases r
  | [_], _, _, _, h => by cases h
  | k :: v :: ds, kvs, ps, r, h => by
    unfold pairsD at h
    split at h
    · rename_i kk qs e1 e2
      cases h
      cases ps with
      | nil => cases r
      | cons p ps =>
        obtain ⟨x, y⟩ := p
        cases r with
        | cons r1 r2 =>
          cases r2 with
          | cons r3 r4 =>
            obtain ⟨us, e, t⟩ := pairs_rel r4 e2
            subst e
            rw [keyD_some e1 r1]
            exact ⟨(kk, y) :: us, rfl, .cons r3 t⟩
    · cases h
/-! ### {k: v, ..} -/
theorem Ok.objL {G : Gam} {w : Wr} {H : Hp} {s : S} {a : Addr} (k : Ok G w H s) (hp : w.ph a) (hm : ¬ w.mu a) (o : HO) (ao : AO) (r : AORp G (objW w a) (upd H a o) a ao) : Ok G (objW w a) (upd H a o) { s with objs := s.objs ++ [ao] } := by
  have ne : ∀ z, w.mu z → z ≠ a := fun z h e => hm (e ▸ h)
  have hr : a ∉ w.rho := fun h => hm (k.rmu a h)
  have P : Pass w H (objW w a) (upd H a o) := ⟨fun i z h => by
    show (w.rho ++ [a])[i]? = some z
    rw [List.getElem?_append_left (List.getElem?_eq_some_iff.mp h).1]
    exact h, fun z u h n => ⟨by rw [upd_ne (fun (e : z = a) => n (e ▸ hp))]; exact h, fun q => q.elim n fun e => n (e ▸ hp)⟩⟩
  refine ⟨fun z h => h.elim (fun h => .inl (k.sub z h)) .inr, fun z h => ?_, ?_, ?_, fun z h => ?_, fun i z u h1 h2 => ?_, ?_⟩
  · intro e
    by_cases ez : z = a
    · rw [ez, upd_same] at e; cases e
    · rw [upd_ne ez] at e
      exact h.elim (fun h => k.ins z h e) ez
  · show (w.rho ++ [a]).length = (s.objs ++ [ao]).length
    rw [List.length_append, List.length_append, k.len]
    rfl
  · show (w.rho ++ [a]).Nodup
    rw [List.nodup_append]
    exact ⟨k.nd, by simp, fun x hx y hy => by rw [List.mem_singleton.mp hy]; exact fun e => hr (e ▸ hx)⟩
  · rcases List.mem_append.mp h with h | h
    · exact .inl (k.rmu z h)
    · exact .inr (List.mem_singleton.mp h)
  · have h1 : (w.rho ++ [a])[i]? = some z := h1
    have h2 : (s.objs ++ [ao])[i]? = some u := h2
    by_cases hi : i < w.rho.length
    · rw [List.getElem?_append_left hi] at h1
      rw [List.getElem?_append_left (by rw [← k.len]; exact hi)] at h2
      exact (k.objs i z u h1 h2).pass P fun v h => by rw [upd_ne (ne z (k.rmu z (List.mem_of_getElem? h1)))]; exact h
    · have : i = w.rho.length := by
        have := (List.getElem?_eq_some_iff.mp h1).1
        rw [List.length_append, List.length_singleton] at this
        omega
      subst this
      rw [List.getElem?_append_right (Nat.le_refl _), Nat.sub_self] at h1
      rw [k.len, List.getElem?_append_right (Nat.le_refl _), Nat.sub_self] at h2
      cases h1
      cases h2
      exact r
  · exact k.draw.keep (fun z u h hz h' => ⟨by rw [upd_ne (ne z hz)]; exact h, fun q => (List.mem_append.mp q).elim h' fun q => ne z hz (List.mem_singleton.mp q)⟩) fun _ h => .inl h
theorem Ext.objL {w w1 : Wr} {H H1 : Hp} {a : Addr} (x : Ext w H w1 H1) (n : H a = none) (o : HO) : Ext w H (objW w1 a) (upd H1 a o) where
  ids := by
    obtain ⟨m, e⟩ := x.ids
    exact ⟨m ++ [a], by show w1.rho ++ [a] = _; rw [e, List.append_assoc]⟩
  ph1 := fun z h => .inl (x.ph1 z h)
  ph2 := fun z h => h.elim (x.ph2 z) fun e => .inr (e ▸ n)
  mu1 := fun z h => .inl (x.mu1 z h)
  mu2 := fun z h => h.elim (x.mu2 z) fun e => .inr (e ▸ n)
  keep := fun z u h m => by rw [upd_ne (ne_of_none h n)]; exact x.keep z u h m
  dom := fun z h => by
    by_cases e : z = a
    · rw [e]; exact n
    · rw [upd_ne e] at h; exact x.dom z h
def mDct (n : MA) : ME := fun env s => (n env s).bindN fun es s => match (strict es).bind pairsD with
  | some kvs => if kvs.length ≤ 15 then .ok (.v (.dct (mergeD [] kvs))) s else .fail
  | none => .fail
def mNewD (n : MA) : ME := fun env s => (n env s).bindN fun es s => match (strict es).bind pairsD with
  | some kvs => if kvs.length ≤ 15 then .ok (.v (.obj s.objs.length)) { s with objs := s.objs ++ [.dct (mergeD [] kvs)] } else .fail
  | none => .fail
/-- what the pairs of a display are -/
def JPairs (G : Gam) (X : Cx) (ks : List (Option Expr)) (vs : List Expr) (m : MA) : Prop := ∃ trs, (∀ pos, PPs X pos ks vs trs) ∧ ∀ σ H (Q : List (V × V) → Hp → Prop), tMA G W0 m σ H (fun us H' => ∀ ps, us = flatP ps → Q ps H') → tPairs trs σ H Q
theorem tMA.imp {G : Gam} {W : WX} {m : MA} {σ : Sg} {H : Hp} {Q Q' : List V → Hp → Prop} (h : tMA G W m σ H Q) (hi : ∀ vs H, Q vs H → Q' vs H) : tMA G W m σ H Q' := by
  obtain ⟨w, env, s, H0, k, er, p⟩ := h
  exact ⟨w, env, s, H0, k, er, p.imp (fun _ _ _ _ _ _ q vs r => hi _ _ (q vs r)) fun _ _ _ z => z⟩
theorem tM.imp {G : Gam} {W : WX} {m : ME} {σ : Sg} {H : Hp} {Q Q' : VK} (h : tM G W m σ H Q) (hi : ∀ v H, Q v H → Q' v H) : tM G W m σ H Q' := by
  obtain ⟨w, env, s, H0, k, er, p⟩ := h
  exact ⟨w, env, s, H0, k, er, p.imp (fun _ _ _ _ _ _ q vs r => hi _ _ (q vs r)) fun _ _ _ z => z⟩
theorem jp_nil {G : Gam} {X : Cx} : JPairs G X [] [] aNil := ⟨[], fun pos => pps_nil, fun σ H Q ⟨w, env, s, H0, k, er, p⟩ => p w H (Ext.refl _ _) k [] .nil [] rfl⟩
theorem jp_cons {G : Gam} {X : Cx} {k v : Expr} {ks : List (Option Expr)} {vs : List Expr} {mk mv : ME} {m : MA} (hk : PE X k (tM G W0 mk)) (hv : PE X v (tM G W0 mv)) (hr : JPairs G X ks vs m) : JPairs G X (some k :: ks) (v :: vs) (aCons mk (aCons mv m)) := by
  obtain ⟨trs, h1, h2⟩ := hr
  refine ⟨(_, _) :: trs, fun pos => pps_cons hk hv (h1 pos), fun σ H Q h => ?_⟩
  refine (tmCons h).imp fun x H1 h => ?_
  refine (tmCons h).imp fun y H2 h => ?_
  exact h2 σ H2 _ (tMA.imp h fun us H3 q ps e => q ((x, y) :: ps) (by rw [e]; rfl))
theorem je_dct {G : Gam} {X : Cx} {W : WX} {ks : List (Option Expr)} {vs : List Expr} {pos : Pos} {m : MA} (hj : JPairs G X ks vs m) (hall : ks.all (·.isSome) = true) (hl : ks.length = vs.length) (h0 : ks ≠ []) (h15 : ks.length ≤ 15) : PE X (.Dict ks vs pos) (tM G W (mDct m)) := by
  obtain ⟨trs, h1, h2⟩ := hj
  refine PE.mono (pe_disp (h1 pos) hall hl h0 h15) fun σ H Q ⟨w, env, s, H0, k, er, p⟩ => ?_
  intro a na
  refine h2 σ _ _ ?_
  have x0 : Ext w H (lockW w a) (upd H a (.dK [])) := ((Ext.refl w H).lock na).put na _
  refine ⟨lockW w a, env, s, H0, k.lock na _, er.ext k x0, (Post.bindN (w2 := lockW w a) (H2 := upd H a (.dK [])) p).imp (fun es s1 w1 H1 x1 k1 p1 us r1 ps eu => ?_) fun _ _ _ z => z⟩
  subst eu
  have hp : w1.ph a := x1.ph1 a (.inr rfl)
  have hm0 : ¬ (lockW w a).mu a := fun z => k.ins a (k.sub a z) na
  have hm : ¬ w1.mu a := fun z => (x1.mu2 a z).elim hm0 fun q => by rw [upd_same] at q; cases q
  refine ⟨x1.keep a _ upd_same hm0, ?_⟩
  split at p1
  · rename_i kvs ek
    split at p1
    · rename_i hlen
      obtain ⟨ds, e1, e2⟩ := Option.bind_eq_some_iff.mp ek
      obtain ⟨uk, rfl, rk⟩ := pairs_rel (r1.strict e1) e2
      refine ⟨uk, rfl, by rw [← rk.length]; exact hlen, ?_⟩
      have hd := (RpK.nil.merge rk).pass ((Pass.put (w := w1) (H := H1) hp (.dK (mergeK [] uk))).trans (Pass.unlock (D := a)))
      exact p1 (unlockW w1 a) _ (((x0.trans x1).put na _).unlock (k.nph na)) ((k1.put hp hm _).unlock hm) _ (.v (.dct upd_same (fun z => z.2 rfl) hd.1 hd.2))
    · exact p1.elim
  · exact p1.elim
theorem je_newD {G : Gam} {X : Cx} {W : WX} {ks : List (Option Expr)} {vs : List Expr} {pos : Pos} {m : MA} (hj : JPairs G X ks vs m) (hall : ks.all (·.isSome) = true) (hl : ks.length = vs.length) (h0 : ks ≠ []) (h15 : ks.length ≤ 15) : PE X (.Dict ks vs pos) (tM G W (mNewD m)) := by
  obtain ⟨trs, h1, h2⟩ := hj
  refine PE.mono (pe_disp (h1 pos) hall hl h0 h15) fun σ H Q ⟨w, env, s, H0, k, er, p⟩ => ?_
  intro a na
  refine h2 σ _ _ ?_
  have x0 : Ext w H (lockW w a) (upd H a (.dK [])) := ((Ext.refl w H).lock na).put na _
  refine ⟨lockW w a, env, s, H0, k.lock na _, er.ext k x0, (Post.bindN (w2 := lockW w a) (H2 := upd H a (.dK [])) p).imp (fun es s1 w1 H1 x1 k1 p1 us r1 ps eu => ?_) fun _ _ _ z => z⟩
  subst eu
  have hp : w1.ph a := x1.ph1 a (.inr rfl)
  have hm0 : ¬ (lockW w a).mu a := fun z => k.ins a (k.sub a z) na
  have hm : ¬ w1.mu a := fun z => (x1.mu2 a z).elim hm0 fun q => by rw [upd_same] at q; cases q
  refine ⟨x1.keep a _ upd_same hm0, ?_⟩
  split at p1
  · rename_i kvs ek
    split at p1
    · rename_i hlen
      obtain ⟨ds, e1, e2⟩ := Option.bind_eq_some_iff.mp ek
      obtain ⟨uk, rfl, rk⟩ := pairs_rel (r1.strict e1) e2
      refine ⟨uk, rfl, by rw [← rk.length]; exact hlen, ?_⟩
      have P : Pass w1 H1 (objW w1 a) (upd H1 a (.dK (mergeK [] uk))) := ⟨fun i z h => by
        show (w1.rho ++ [a])[i]? = some z
        rw [List.getElem?_append_left (List.getElem?_eq_some_iff.mp h).1]
        exact h, fun z u h n => ⟨by rw [upd_ne (fun (e : z = a) => n (e ▸ hp))]; exact h, fun q => q.elim n fun e => n (e ▸ hp)⟩⟩
      have hd := (RpK.nil.merge rk).pass P
      refine p1 (objW w1 a) _ ((x0.trans x1).objL na _) (k1.objL hp hm _ _ ⟨_, upd_same, hd.1, hd.2⟩) _ (.v (.obj ?_))
      show (w1.rho ++ [a])[s1.objs.length]? = some a
      rw [← k1.len, List.getElem?_append_right (Nat.le_refl _), Nat.sub_self]
      rfl
    · exact p1.elim
  · exact p1.elim
/-! ### d[k] -/
def ixdD (x y : EV) (s : S) : Res EV := match rdO s x.get, y.get with
  | .dct kvs, d => match keyD d with
    | some k => (match valD kvs k with | some v => .ok (.v v) s | none => .fail)
    | none => .fail
  | _, _ => .fail
theorem RpE.v_of {G : Gam} {w : Wr} {H : Hp} {e : EV} {v : V} (h : RpE G w H e v) (hn : ∀ ds, e.get ≠ .lst ds) : Rp G w H e.get v := by
  cases h with
  | v h => exact h
  | b h n f r => exact absurd rfl (hn _)
abbrev rIxDct : R2 := fun x y H Q => ∃ a v, x = .ref a ∧ DGet H a y (some v) ∧ Q v H
theorem ix_dct {X : Cx} (hu : X.A.units + 1 < cLine) : IxR X rIxDct := by
  intro value slice pins s σ H x y v u Q I rx ry h hs
  obtain ⟨a, r, rfl, g, q⟩ := h
  obtain rfl : v = Value.ref a := rx
  exact tail_any (dict_typeIs I g) slot_dict_getitem.lookup (d_getItem hu I g ry fun w' s' I' rw' => ⟨r, H, I', rw', q⟩) hs
theorem opD_ixd {G : Gam} : OpD G rIxDct ixdD := by
  intro w H s x y vx vy Q W k rx ry h
  unfold ixdD at h
  split at h
  · rename_i kvs ex
    split at h
    · rename_i kk ek
      split at h
      · rename_i d ed
        have rx' : Rp G w H x.get vx := rx.v_of fun ds e => by rw [e] at ex; cases ex
        have ry' : Rp G w H y.get vy := ry.v_of fun ds e => by rw [e] at ek; cases ek
        obtain ⟨a, vs, rfl, h1, h2, h3⟩ := rx'.rdD k ex
        obtain ⟨v, e1, rv⟩ := (valD_rel h2 h3 kk).1 d ed
        rw [keyD_some ek ry']
        exact ⟨a, v, rfl, by rw [← e1]; exact DGet.k h1, h.now k (.v rv)⟩
      · exact h.elim
    · exact h.elim
  · exact h.elim
/-! ### d[k] = e, d an object -/
def sSetO (mo mk me : ME) : MS := fun env s => bindS env (me env s) fun e s => (match e with
  | .v d => bindS env (mo env s) fun o s => bindS env (mk env s) fun kk s => (match o.get, keyD kk.get with
    | .obj i, some k => (match s.objs[i]? with
      | some (.dct kvs) => if kvs.length < sizeLine then .ok (.nx env) { s with objs := s.objs.set i (.dct (putD kvs k d)) } else .fail
      | _ => .fail)
    | _, _ => .fail)
  | .b _ => .fail)
theorem tm_setO {G : Gam} {W : WX} {mo mk me : ME} {Dn : Ends} {σ : Sg} {H : Hp} (h : tMS G W (sSetO mo mk me) Dn σ H) : sDPut (tM G W mo) (tM G W mk) (tM G W me) Dn σ H := by
  obtain ⟨b, w, env, s, h0, a, p⟩ := h
  refine ⟨w, env, s, b.H0, a.ok, a.er, (PostS.bindS a p).imp (fun x s1 w1 H1 x1 k1 ⟨a1, p1⟩ v1 r1 => ?_) fun _ _ _ z => z⟩
  cases x with
  | b _ => exact p1.elim
  | v d =>
    cases r1 with
    | v r1 =>
      refine ⟨w1, env, s1, b.H0, a1.ok, a1.er, (PostS.bindS a1 p1).imp (fun o s2 w2 H2 x2 k2 ⟨a2, p2⟩ v2 r2 => ?_) fun _ _ _ z => z⟩
      refine ⟨w2, env, s2, b.H0, a2.ok, a2.er, (PostS.bindS a2 p2).imp (fun kk s3 w3 H3 x3 k3 ⟨a3, p3⟩ v3 r3 => ?_) fun _ _ _ z => z⟩
      have r1' := (r1.pass (x2.pass k1)).pass (x3.pass k2)
      split at p3
      · rename_i i k eo ek
        split at p3
        · rename_i kvs eobj
          split at p3
          · rename_i hl
            obtain ⟨q, rfl, hi⟩ := (r2.ext k2 x3).obj eo
            have ry' : Rp G w3 H3 kk.get v3 := r3.v_of fun ds e => by rw [e] at ek; cases ek
            obtain ⟨vs, h1, h2, h3⟩ := k3.objs i q _ hi eobj
            have rk : RpK G w3 H3 kvs vs := ⟨h2, h3⟩
            rw [keyD_some ek ry']
            refine ⟨q, _, rfl, DPut.k h1 (by rw [← rk.length]; exact hl), ?_⟩
            have hm := k3.rmu q (List.mem_of_getElem? hi)
            have xx := Ext.write (w := w3) (H := H3) hm (.dK (putK vs k v1)) (k3.ins q (k3.sub q hm))
            have rk' := (rk.put r1' (k := k)).pass (xx.pass k3)
            obtain ⟨x4, k4⟩ := k3.write hi (.dK (putK vs k v1)) (.dct (putD kvs k d)) ⟨_, upd_same, rk'.1, rk'.2⟩
            exact p3 w3 _ σ (a3.ext.trans k3 x4) k4 (a3.er.ext k3 x4)
          · exact p3.elim
        · exact p3.elim
      · exact p3.elim
/-- {} -/
theorem je_dct0 {G : Gam} {X : Cx} {W : WX} {pos : Pos} : PE X (.Dict [] [] pos) (tM G W (mC (.dct []))) := by
  refine PE.mono pe_dnewK fun σ H Q ⟨w, env, s, H0, k, er, p⟩ => ?_
  exact fun a n => p w _ (Ext.new n _) (k.new n _) _ (.v (.dct upd_same (k.nph n) rfl .nil))
end SR

set_option Elab.async false
set_option linter.all false
set_option maxRecDepth 100000
set_option autoImplicit false
/-! The code, its denotation, the check against the text, soundness. -/
namespace SR
open PySem PySem.Spec PyProof.Rows
open L2 hiding St

/-! ### more pieces -/
def negD (x : EV) (s : S) : Res EV := match x.get with | .int i => .ok (.v (.int (-i))) s | _ => .fail
def mNeg (m : ME) : ME := fun env s => (m env s).bind fun x s => negD x s
theorem je_neg {G : Gam} {X : Cx} {W : WX} {a : Expr} {pos : Pos} {m : ME} (h : PE X a (tM G W m)) : PE X (.UnaryOp .USub a pos) (tM G W (mNeg m)) := by
  refine PE.mono (pe_un un_neg h) fun σ H Q ⟨w, env, s, H0, k, er, p⟩ => ?_
  refine ⟨w, env, s, H0, k, er, (Post.bind p).imp (fun x s1 w1 H1 x1 k1 p1 v1 r1 => ?_) fun _ _ _ z => z⟩
  unfold negD at p1
  split at p1
  · rename_i i e
    exact ⟨i, r1.int e, PQ.now p1 k1 (.v (.int _))⟩
  · exact p1.elim
def mChain (ma mb mc : ME) (f f' : EV → EV → S → Res EV) : ME := fun env s => (ma env s).bind fun x s => (mb env s).bind fun y s => (f x y s).bind fun z s => match z.get with
  | .bl true => (mc env s).bind fun u s => f' y u s
  | .bl false => .ok (.v (.bl false)) s
  | _ => .fail
theorem tmChain {G : Gam} {W : WX} {ma mb mc : ME} {g g' : Int → Int → Bool} {σ : Sg} {H : Hp} {Q : VK} (h : tM G W (mChain ma mb mc (ltD g) (ltD g')) σ H Q) :
    tChain (rI0 fun i j => .bl (g i j)) (rI0 fun i j => .bl (g' i j)) (tM G W ma) (tM G W mb) (tM G W mc) σ H Q := by
  obtain ⟨w, env, s, H0, k, er, p⟩ := h
  refine ⟨w, env, s, H0, k, er, (Post.bind p).imp (fun x s1 w1 H1 x1 k1 p1 v1 r1 => ?_) fun _ _ _ z => z⟩
  refine ⟨w1, env, s1, H0, k1, er.ext k x1, (Post.bind p1).imp (fun y s2 w2 H2 x2 k2 p2 v2 r2 => ?_) fun _ _ _ z => z⟩
  have r1' := r1.ext k1 x2
  unfold ltD at p2
  split at p2
  · rename_i i j ex ey
    refine ⟨i, j, r1'.int ex, r2.int ey, g i j, rfl, ?_⟩
    simp only [Res.ok_bind, EV.get_v] at p2
    cases hg : g i j with
    | false =>
      rw [hg] at p2
      exact iteF (PQ.now p2 k2 (.v (.bl _)))
    | true =>
      rw [hg] at p2
      refine iteT ⟨w2, env, s2, H0, k2, (er.ext k x1).ext k1 x2, (Post.bind p2).imp (fun u s3 w3 H3 x3 k3 p3 v3 r3 => ?_) fun _ _ _ z => z⟩
      unfold ltD at p3
      split at p3
      · rename_i i' j' ex' ey'
        exact ⟨i', j', (r2.ext k2 x3).int ex', r3.int ey', PQ.now p3 k3 (.v (.bl _))⟩
      · exact p3.elim
  · exact p2.elim

/-! ### errors -/
def errSub (x c : Str) : Bool := decide (x = c) || decide (x = "RestError") || decide (x = "ValueError")
def fldNames : List Str := ["name", "count", "value", "text", "names"]
def ErrOk (G : Gam) : Prop := G.cls.cv "ValueError" = some (.ty "ValueError") ∧ ∀ c C, G.cls.ex c = some C → ExcC G.K C ∧ XfC G.K C ∧ (∀ x v, G.cls.cv x = some v → ∃ u, ClsV v u ∧ PySem.W.kitOne G.K (.ref C) u = some (errSub x c)) ∧ ∀ n ∈ fldNames, PySem.W.findIn G.K (.ref C) n = some none
def isxD (e c : EV) (s : S) : Res EV := match e.get, c.get with
  | .err c _, .cls x => .ok (.v (.bl (errSub x c))) s
  | _, _ => .fail
def fldD (n : Str) (e : EV) (s : S) : Res EV := match e.get with
  | .err _ fs => match fs.lookup n with
    | some d => .ok (.v d) s
    | none => .fail
  | _ => .fail
def mFld (n : Str) (m : ME) : ME := fun env s => (m env s).bind fun e s => fldD n e s
theorem RpE.err {G : Gam} {w : Wr} {H : Hp} {e : EV} {c : Str} {fs : List (Str × D)} {v : V} (h : RpE G w H e v) (q : e.get = .err c fs) : ∃ a C d, v = .ref a ∧ G.cls.ex c = some C ∧ H a = some (exo a C d) ∧ ((d = none ∧ fs = []) ∨ ∃ dd vs, d = some dd ∧ H dd = some (exd dd vs) ∧ RpF G w H fs vs) := by
  cases h with
  | v h =>
    cases q
    cases h with
    | err hc h n hd nd e r => exact ⟨_, _, _, rfl, hc, h, .inr ⟨_, _, rfl, hd, e, r⟩⟩
    | err0 hc h n => exact ⟨_, _, _, rfl, hc, h, .inl ⟨rfl, rfl⟩⟩
  | b h n f r => cases q
theorem je_isx {G : Gam} {X : Cx} {W : WX} {e c : Expr} {p pos : Pos} {m n : ME} (hE : ErrOk G) (hK : X.K = G.K) (hg : Gl X "isinstance") (hm : X.mg "isinstance" = none) (he : PE X e (tM G W m)) (hc : PE X c (tM G W n))
    (h1 : starEach [e, c] X.env = (false, eval e X.env) :: starEach [c] X.env) (h2 : starEach [c] X.env = (false, eval c X.env) :: starEach [] X.env) : PE X (.Call (.Name "isinstance" p) [e, c] [] pos) (tM G W (m2 m n isxD)) := by
  refine PE.mono (pe_callB call_isX hg hm boot_isinstance (pa_cons he (pa_cons hc pa_nil h2) h1) (by decide) (by decide) h1 (by rw [h2]; rfl)) fun σ H Q ⟨w, env, s, H0, k, er, p⟩ => ?_
  refine ⟨w, env, s, H0, k, er, (Post.bind p).imp (fun x s1 w1 H1 x1 k1 p1 v1 r1 => ?_) fun _ _ _ z => z⟩
  refine ⟨w1, env, s1, H0, k1, er.ext k x1, (Post.bind p1).imp (fun y s2 w2 H2 x2 k2 p2 v2 r2 => ?_) fun _ _ _ z => z⟩
  have r1' := r1.ext k1 x2
  unfold isxD at p2
  split at p2
  · rename_i c fs x ex ey
    obtain ⟨a, C, d, rfl, hC, ha, hd⟩ := r1'.err ex
    obtain ⟨t1, t2, t3, t4⟩ := hE.2 c C hC
    have hv : G.cls.cv x = some v2 := by
      cases r2 with
      | v h => cases ey; cases h; assumption
      | b h n f r => cases ey
    obtain ⟨u, hu1, hu2⟩ := t3 x v2 hv
    rw [hK]
    refine ⟨a, C, d, v2, u, _, rfl, ha, fun dd e => ?_, hu1, t1, hu2, PQ.now p2 k2 (.v (.bl _))⟩
    rcases hd with ⟨z, _⟩ | ⟨dd', vs, z, h, _⟩
    · rw [z] at e; cases e
    · rw [z] at e; cases e; exact ⟨vs, h⟩
  · exact p2.elim
theorem je_fld {G : Gam} {X : Cx} {W : WX} {e : Expr} {pos : Pos} {m : ME} {n : Str} (hE : ErrOk G) (hK : X.K = G.K) (hn : n ∈ fldNames) (he : PE X e (tM G W m)) (hb : attributeBase e n X.env (eval e X.env) = eval e X.env) : PE X (.Attribute e n pos) (tM G W (mFld n m)) := by
  refine PE.mono (pe_xv he hb) fun σ H Q ⟨w, env, s, H0, k, er, p⟩ => ?_
  refine ⟨w, env, s, H0, k, er, (Post.bind p).imp (fun x s1 w1 H1 x1 k1 p1 v1 r1 => ?_) fun _ _ _ z => z⟩
  unfold fldD at p1
  split at p1
  · rename_i c fs ex
    split at p1
    · rename_i d ed
      obtain ⟨a, C, dd, rfl, hC, ha, hd⟩ := r1.err ex
      obtain ⟨t1, t2, t3, t4⟩ := hE.2 c C hC
      rcases hd with ⟨_, z⟩ | ⟨dd', vs, rfl, h, rf⟩
      · rw [z] at ed; cases ed
      · obtain ⟨v, hl, rv⟩ := rf.look ed
        rw [hK]
        exact ⟨a, C, dd', vs, v, rfl, ha, h, t2, t4 n hn, hl, PQ.now p1 k1 (.v rv)⟩
    · exact p1.elim
  · exact p1.elim

/-! ### the code -/
inductive Bin where
  | add | sub | mul | div | mod | pow
inductive Cm where
  | lt | le | gt | ge
inductive Ce where
  | eq | ne | isin | notin
inductive Bl where
  | len | int1 | abs | list | tuple
inductive Sm where
  | join
def Bin.f : Bin → EV → EV → S → Res EV
  | .add => addD | .sub => subD | .mul => mulD | .div => divD | .mod => modD | .pow => powD
def Bin.op : Bin → Operator
  | .add => .Add | .sub => .Sub | .mul => .Mult | .div => .FloorDiv | .mod => .Mod | .pow => .Pow
def Cm.g : Cm → Int → Int → Bool
  | .lt => fun i j => decide (i < j) | .le => fun i j => decide (i ≤ j) | .gt => fun i j => decide (j < i) | .ge => fun i j => decide (j ≤ i)
def Cm.op : Cm → CmpOp
  | .lt => .Lt | .le => .LtE | .gt => .Gt | .ge => .GtE
def Ce.f : Ce → EV → EV → S → Res EV
  | .eq => eqD3 | .ne => eqD true | .isin => inD false | .notin => inD true
def Ce.op : Ce → CmpOp
  | .eq => .Eq | .ne => .NotEq | .isin => .In | .notin => .NotIn
def Bl.f : Bl → List EV → S → Res EV
  | .len => lenD | .int1 => int1D | .abs => absD | .list => listD | .tuple => tupleD
def Bl.name : Bl → Str
  | .len => "len" | .int1 => "int" | .abs => "abs" | .list => "list" | .tuple => "tuple"
def Sm.f : Sm → Str → List EV → S → Res EV
  | .join => joinD
def Sm.name : Sm → Str
  | .join => "join"
inductive C where
  -- expressions
  | var (i : Nat) | int (n : Int) | bl (b : Bool) | str (x : Str) | non | glob (i : Nat)
  | bin (op : Bin) (a b : C) | neg (a : C) | cmp (op : Cm) (a b : C) | cme (op : Ce) (a b : C) | chain (op op' : Cm) (a b c : C)
  | notV (a : C) | andV (a b : C) | orV (a b : C) | one (a : C) | ife (t a b : C)
  | ix (a b : C) | sl (a lo hi : C) | rev (a : C) | lst (a : C) | tup (a : C)
  | call (i : Nat) (a : C) | callk (i : Nat) (a : C) | blt (f : Bl) (a : C) | isi (x : Str) (T : String) (a : C) | isx (a b : C) | bty (x : Str) | fld (n : Str) (a : C) | sm (f : Sm) (o a : C)
  | comp (it : C) (t : Tg) (own : List (Str × Nat)) (tt te : C)
  | newL (a : C) | appO (o a : C) | dct (a : C) | dct0 | newD (a : C) | ixd (a b : C)
  | pnil | pcons (k v r : C)
  -- a slice's parts, arguments
  | pno | pso (a : C) | anil | acons (a r : C)
  -- tests
  | tv (a : C) | tnot (t : C) | tand (t r : C) | tor (t r : C) | tone (t : C) | tno | tyes (t : C)
  -- walks
  | iseq (a : C) | irng (a : C)
  -- statements, blocks
  | ret (a : C) | retN | drop (a : C) | asg (t : Tg) (a : C) | asgC (i : Nat) (it : C) (t : Tg) (own : List (Str × Nat)) (tt te : C) | ownL (i : Nat) (a : C) | ownC (i : Nat) (it : C) (t : Tg) (own : List (Str × Nat)) (tt te : C) | app (i : Nat) (a : C) | set (i : Nat) (k a : C)
  | sif (t a b : C) | sfor (it : C) (t : Tg) (b : C) | pass | brk | cont
  | setO (o k a : C)
  | nil | seq (a b : C) | frz (i : Nat) (b : C)
abbrev Tb := List (Str × List Str × Nat × Fn)
structure Den where
  e : ME := fun _ _ => .fail
  t : MT := fun _ _ => .fail
  a : MA := fun _ _ => .fail
  o : MO := fun _ _ => .fail
  i : MI := fun _ _ => .fail
  s : MS := fun _ _ => .fail
def mCallT (tb : Tb) (i : Nat) (ma : MA) : ME := match tb[i]? with
  | some (_, _, n, F) => mCall n F ma
  | none => fun _ _ => .fail
def mGlob (gl : List (Str × D)) (i : Nat) : ME := match gl[i]? with
  | some (_, d) => mC d
  | none => fun _ _ => .fail
def mCompF (mi : MI) (t : Tg) (vs : List Nat) (tt : MT) (te : ME) : MF := fun env s => (mi env s).bind fun p s => goC (wipeE env vs) t tt te p.2 [] s
def tYesM : MT := fun _ s => .ok true s
def den (gl : List (Str × D)) (tb : Tb) : C → Den
  | .var i => { e := mVar i }
  | .int n => { e := mC (.int n) }
  | .bl b => { e := mC (.bl b) }
  | .str x => { e := mC (.str x) }
  | .non => { e := mC .non }
  | .glob i => { e := mGlob gl i }
  | .bin op a b => { e := m2 (den gl tb a).e (den gl tb b).e op.f }
  | .neg a => { e := mNeg (den gl tb a).e }
  | .cmp op a b => { e := m2 (den gl tb a).e (den gl tb b).e (ltD op.g), t := mTest (m2 (den gl tb a).e (den gl tb b).e (ltD op.g)) }
  | .cme op a b => { e := m2 (den gl tb a).e (den gl tb b).e op.f, t := mTest (m2 (den gl tb a).e (den gl tb b).e op.f) }
  | .chain op op' a b c => { e := mChain (den gl tb a).e (den gl tb b).e (den gl tb c).e (ltD op.g) (ltD op'.g), t := mTest (mChain (den gl tb a).e (den gl tb b).e (den gl tb c).e (ltD op.g) (ltD op'.g)) }
  | .notV a => { e := mNotV (den gl tb a).e }
  | .andV a b => { e := mAndV (den gl tb a).e (den gl tb b).e }
  | .orV a b => { e := mOrV (den gl tb a).e (den gl tb b).e }
  | .one a => { e := (den gl tb a).e }
  | .ife t a b => { e := mIf (den gl tb t).t (den gl tb a).e (den gl tb b).e }
  | .ix a b => { e := m2 (den gl tb a).e (den gl tb b).e ixD }
  | .sl a lo hi => { e := mSl (den gl tb a).e (den gl tb lo).o (den gl tb hi).o }
  | .rev a => { e := mRev (den gl tb a).e }
  | .lst a => { e := mLst (den gl tb a).a }
  | .tup a => { e := mTup (den gl tb a).a }
  | .call i a => { e := mCallT tb i (den gl tb a).a }
  | .callk i a => { e := mCallT tb i (den gl tb a).a }
  | .blt f a => { e := mB f.f (den gl tb a).a }
  | .isi _ T a => { e := mIsi T (den gl tb a).e }
  | .isx a b => { e := m2 (den gl tb a).e (den gl tb b).e isxD }
  | .bty x => { e := mC (.cls x) }
  | .fld n a => { e := mFld n (den gl tb a).e }
  | .sm f o a => { e := mMs f.f (den gl tb o).e (den gl tb a).a }
  | .comp it t own tt te => { e := mComp (den gl tb it).i t (own.map (·.2)) (den gl tb tt).t (den gl tb te).e }
  | .newL a => { e := mNewL (den gl tb a).a }
  | .appO o a => { e := mAppO (den gl tb o).e (den gl tb a).e }
  | .dct a => { e := mDct (den gl tb a).a }
  | .dct0 => { e := mC (.dct []) }
  | .newD a => { e := mNewD (den gl tb a).a }
  | .ixd a b => { e := m2 (den gl tb a).e (den gl tb b).e ixdD }
  | .pnil => { a := aNil }
  | .pcons k v r => { a := aCons (den gl tb k).e (aCons (den gl tb v).e (den gl tb r).a) }
  | .setO o k a => { s := sSetO (den gl tb o).e (den gl tb k).e (den gl tb a).e }
  | .pno => { o := oNone }
  | .pso a => { o := oSome (den gl tb a).e }
  | .anil => { a := aNil }
  | .acons a r => { a := aCons (den gl tb a).e (den gl tb r).a }
  | .tv a => { t := mTest (den gl tb a).e }
  | .tnot t => { t := mNot (den gl tb t).t }
  | .tand t r => { t := mAnd (den gl tb t).t (den gl tb r).t }
  | .tor t r => { t := mOr (den gl tb t).t (den gl tb r).t }
  | .tone t => { t := (den gl tb t).t }
  | .tno => { t := tYesM }
  | .tyes t => { t := (den gl tb t).t }
  | .iseq a => { i := iSeq (den gl tb a).e }
  | .irng a => { i := iRange (den gl tb a).a }
  | .ret a => { s := sRet (den gl tb a).e }
  | .retN => { s := sRetN }
  | .drop a => { s := sDrop (den gl tb a).e }
  | .asg t a => { s := sAsg t (den gl tb a).e }
  | .asgC i it t own tt te => { s := sAsg (.nm i) (mComp (den gl tb it).i t (own.map (·.2)) (den gl tb tt).t (den gl tb te).e) }
  | .ownL i a => { s := sOwn i (mLstF (den gl tb a).a) }
  | .ownC i it t own tt te => { s := sOwn i (mCompF (den gl tb it).i t (own.map (·.2)) (den gl tb tt).t (den gl tb te).e) }
  | .app i a => { s := sApp i (den gl tb a).e }
  | .set i k a => { s := sSet i (den gl tb k).e (den gl tb a).e }
  | .sif t a b => { s := sIf (den gl tb t).t (den gl tb a).s (den gl tb b).s }
  | .sfor it t b => { s := sFor (den gl tb it).i t (den gl tb b).s }
  | .pass => { s := sPass }
  | .brk => { s := sBreak }
  | .cont => { s := sCont }
  | .nil => { s := sNil }
  | .seq a b => { s := sSeq (den gl tb a).s (den gl tb b).s }
  | .frz i b => { s := sFrz i (den gl tb b).s }

/-! ### the check -/
def bltNames : List Str := ["len", "int", "abs", "list", "tuple", "isinstance", "range", "bool", "str", "dict", "ValueError"]
structure CK where
  N : List Str
  sc : Scope
  fn : Str → Bool
  gl : List (Str × D)
  fs : List (Str × List Str)
inductive Ast where
  | e (x : Expr) | t (x : Expr) | as (xs : List Expr) | ps (ks : List (Option Expr)) (vs : List Expr) | ks (xs : List Keyword) | o (x : Option Expr) | i (x : Expr) | ts (xs : List Expr) | s (x : Stmt) | b (xs : List Stmt)
def plainName (x : Str) : Bool := !(x == ("__debug__" : Str)) && !(x == ("__classdict__" : Str)) && !(x == ("__name__" : Str))
def CK.vis (k : CK) (i : Nat) (x : Str) : Bool := decide (k.N[i]? = some x) && plainName x && (match k.sc.names.lookup x with | some .local => true | some .cell => true | some .free => true | _ => false)
def CK.gl? (k : CK) (x : Str) : Bool := plainName x && (match k.sc.names.lookup x with | some .globalImplicit => true | _ => false)
def CK.loc (k : CK) (i : Nat) (x : Str) : Bool := decide (k.N[i]? = some x) && (match k.sc.names.lookup x with | some .local => true | some .cell => k.fn x | _ => false)
def noStar : Expr → Bool
  | .Starred _ _ => false
  | _ => true
def noSlice : Expr → Bool
  | .Slice _ _ _ _ => false
  | .Tuple _ _ _ => false
  | _ => true
def noSet : Expr → Bool
  | .Set _ _ _ => false
  | _ => true
def noComp : Expr → Bool
  | .ListComp _ _ _ _ => false
  | .SetComp _ _ _ _ => false
  | .DictComp _ _ _ _ _ => false
  | _ => true
def noCall : Expr → Bool
  | .Call _ _ _ _ => false
  | _ => true
def plainT : Expr → Bool
  | .UnaryOp .Not _ _ => false
  | .BoolOp _ _ _ => false
  | .IfExp _ _ _ _ => false
  | .Compare _ _ _ _ => false
  | _ => true
def CK.names (k : CK) : List Nat → List Expr → Bool
  | [], [] => true
  | i :: is, .Name x _ :: es => k.loc i x && k.names is es
  | _, _ => false
def CK.tg (k : CK) (t : Tg) (e : Expr) : Bool := match t, e with
  | .nm i, .Name x _ => k.loc i x
  | .tp is, .Tuple es _ _ => k.names is es
  | _, _ => false
def CK.blk (k : CK) (scope : Scope) : CK := { k with sc := relS scope k.sc, fn := fun x => scope.names.lookup x == some .cell }
/-- a comprehension whose value is stored at a name on its own line, or not -/
def swapB (k : CK) (i : Nat) (x : Str) (px : Pos) (scope : Scope) (pos : Pos) : Bool :=
  decide (k.N[i]? = some x) && (match k.sc.kind with | .function => true | _ => false) && (match k.sc.names.lookup x with | some .local => true | _ => false) && (px.line == pos.line) && !(scope.names.any fun (n, k) => n == x && (k == .local || k == .cell))
def swapN (k : CK) (x : Str) : Bool := match k.sc.names.lookup x with | some .cell => true | _ => false
def isComp1 : Expr → Bool
  | .ListComp _ [⟨_, _, _, 0⟩] _ _ => true
  | _ => false
def chk (k : CK) : C → Ast → Bool
  | .var i, ast => match ast with
    | .e (.Name x _) => k.vis i x
    | _ => false
  | .int n, ast => match ast with
    | .e (.Constant (.int m) _ _) => decide (n = m)
    | _ => false
  | .bl b, ast => match ast with
    | .e (.Constant (.bool c) _ _) => b == c
    | _ => false
  | .str x, ast => match ast with
    | .e (.Constant (.str y) _ _) => decide (x = y)
    | _ => false
  | .non, ast => match ast with
    | .e (.Constant .none _ _) => true
    | _ => false
  | .glob i, ast => match ast with
    | .e (.Name x _) => k.gl? x && (match k.gl[i]? with | some (y, _) => decide (x = y) | none => false)
    | _ => false
  | .bin op a b, ast => match ast with
    | .e (.BinOp x o y _) => decide (o = op.op) && chk k a (.e x) && chk k b (.e y)
    | _ => false
  | .neg a, ast => match ast with
    | .e (.UnaryOp .USub x _) => chk k a (.e x)
    | _ => false
  | .cmp op a b, ast => match ast with
    | .e (.Compare x [o] [y] _) => decide (o = op.op) && chk k a (.e x) && chk k b (.e y)
    | .t (.Compare x [o] [y] _) => decide (o = op.op) && chk k a (.e x) && chk k b (.e y)
    | _ => false
  | .cme op a b, ast => match ast with
    | .e (.Compare x [o] [y] _) => decide (o = op.op) && noSet y && chk k a (.e x) && chk k b (.e y)
    | .t (.Compare x [o] [y] _) => decide (o = op.op) && noSet y && chk k a (.e x) && chk k b (.e y)
    | _ => false
  | .chain op op' a b c, ast => match ast with
    | .e (.Compare x [o, o'] [y, z] _) => decide (o = op.op) && decide (o' = op'.op) && chk k a (.e x) && chk k b (.e y) && chk k c (.e z)
    | .t (.Compare x [o, o'] [y, z] _) => decide (o = op.op) && decide (o' = op'.op) && chk k a (.e x) && chk k b (.e y) && chk k c (.e z)
    | _ => false
  | .notV a, ast => match ast with
    | .e (.UnaryOp .Not x _) => chk k a (.e x)
    | _ => false
  | .andV a b, ast => match ast with
    | .e (.BoolOp .And (x :: y :: r) p) => chk k a (.e x) && chk k b (.e (.BoolOp .And (y :: r) p))
    | _ => false
  | .orV a b, ast => match ast with
    | .e (.BoolOp .Or (x :: y :: r) p) => chk k a (.e x) && chk k b (.e (.BoolOp .Or (y :: r) p))
    | _ => false
  | .one a, ast => match ast with
    | .e (.BoolOp _ [x] _) => chk k a (.e x)
    | _ => false
  | .ife t a b, ast => match ast with
    | .e (.IfExp x y z _) => chk k t (.t x) && chk k a (.e y) && chk k b (.e z)
    | _ => false
  | .ix a b, ast => match ast with
    | .e (.Subscript x y _) => noSlice y && chk k a (.e x) && chk k b (.e y)
    | _ => false
  | .sl a lo hi, ast => match ast with
    | .e (.Subscript x (.Slice l h none _) _) => chk k a (.e x) && chk k lo (.o l) && chk k hi (.o h)
    | _ => false
  | .rev a, ast => match ast with
    | .e (.Subscript x (.Slice none none (some (.UnaryOp .USub (.Constant (.int 1) _ _) _)) _) _) => chk k a (.e x)
    | _ => false
  | .lst a, ast => match ast with
    | .e (.List xs _) => chk k a (.as xs)
    | _ => false
  | .tup a, ast => match ast with
    | .e (.Tuple xs _ _) => chk k a (.as xs)
    | _ => false
  | .call i a, ast => match ast with
    | .e (.Call (.Name x _) xs [] _) => k.gl? x && decide (k.fs[i]? = some (x, [])) && chk k a (.as xs)
    | _ => false
  | .callk i a, ast => match ast with
    | .e (.Call (.Name x _) [] (w :: ws) _) => k.gl? x && (match k.fs[i]? with | some (y, u :: us) => decide (x = y) && decide ((w :: ws).map (·.arg) = (u :: us).map some) | _ => false) && chk k a (.ks (w :: ws))
    | _ => false
  | .blt f a, ast => match ast with
    | .e (.Call (.Name x _) (y :: ys) [] _) => k.gl? x && decide (x = f.name) && chk k a (.as (y :: ys))
    | _ => false
  | .isi x T a, ast => match ast with
    | .e (.Call (.Name g _) [y, .Name z _] [] _) => k.gl? g && decide (g = "isinstance") && k.gl? z && decide (z = x) && decide (x ∈ bltNames) && decide (bootBuiltins x = some (.type T)) && noStar y && chk k a (.e y)
    | _ => false
  | .isx a b, ast => match ast with
    | .e (.Call (.Name g _) [y, z] [] _) => k.gl? g && decide (g = "isinstance") && noStar y && noStar z && chk k a (.e y) && chk k b (.e z)
    | _ => false
  | .bty x, ast => match ast with
    | .e (.Name y _) => k.gl? y && decide (y = x) && decide (x = "ValueError")
    | _ => false
  | .fld n a, ast => match ast with
    | .e (.Attribute y m _) => decide (m = n) && decide (n ∈ fldNames) && noCall y && chk k a (.e y)
    | _ => false
  | .sm f o a, ast => match ast with
    | .e (.Call (.Attribute x n ap) (y :: ys) [] cp) => decide (n = f.name) && noCall x && (ap.endLine == cp.line) && decide ((y :: ys).length < 30) && chk k o (.e x) && chk k a (.as (y :: ys))
    | _ => false
  | .comp it t own tt te, ast => match ast with
    | .e (.ListComp elt [⟨tg, iter, ifs, 0⟩] scope _) => noSet iter && blkC k.N k.sc scope own && decide (∀ i ∈ t.slots, i ∈ own.map (·.2)) && (k.blk scope).tg t tg && chk k it (.i iter) && chk (k.blk scope) tt (.ts ifs) && chk (k.blk scope) te (.e elt)
    | _ => false
  | .newL a, ast => match ast with
    | .e (.List xs _) => chk k a (.as xs)
    | _ => false
  | .appO o a, ast => match ast with
    | .e (.Call (.Attribute x n ap) [y] [] cp) => decide (n = "append") && (ap.endLine == cp.line) && noStar y && noCall x && chk k o (.e x) && chk k a (.e y)
    | _ => false
  | .dct a, ast => match ast with
    | .e (.Dict ks vs _) => ks.all (·.isSome) && decide (ks.length = vs.length) && !ks.isEmpty && decide (ks.length ≤ 15) && chk k a (.ps ks vs)
    | _ => false
  | .dct0, ast => match ast with
    | .e (.Dict [] [] _) => true
    | _ => false
  | .newD a, ast => match ast with
    | .e (.Dict ks vs _) => ks.all (·.isSome) && decide (ks.length = vs.length) && !ks.isEmpty && decide (ks.length ≤ 15) && chk k a (.ps ks vs)
    | _ => false
  | .ixd a b, ast => match ast with
    | .e (.Subscript x y _) => noSlice y && chk k a (.e x) && chk k b (.e y)
    | _ => false
  | .pnil, ast => match ast with
    | .ps [] [] => true
    | _ => false
  | .pcons a b r, ast => match ast with
    | .ps (some x :: xs) (y :: ys) => chk k a (.e x) && chk k b (.e y) && chk k r (.ps xs ys)
    | _ => false
  | .setO o kk a, ast => match ast with
    | .s (.Assign [.Subscript x y _] z _) => noSlice y && noComp z && chk k o (.e x) && chk k kk (.e y) && chk k a (.e z)
    | _ => false
  | .pno, ast => match ast with
    | .o none => true
    | _ => false
  | .pso a, ast => match ast with
    | .o (some x) => chk k a (.e x)
    | _ => false
  | .anil, ast => match ast with
    | .as [] => true
    | .ks [] => true
    | _ => false
  | .acons a r, ast => match ast with
    | .as (x :: xs) => noStar x && chk k a (.e x) && chk k r (.as xs)
    | .ks (⟨_, x, _⟩ :: xs) => chk k a (.e x) && chk k r (.ks xs)
    | _ => false
  | .tv a, ast => match ast with
    | .t x => plainT x && chk k a (.e x)
    | _ => false
  | .tnot t, ast => match ast with
    | .t (.UnaryOp .Not x _) => chk k t (.t x)
    | _ => false
  | .tand t r, ast => match ast with
    | .t (.BoolOp .And (x :: y :: ys) p) => chk k t (.t x) && chk k r (.t (.BoolOp .And (y :: ys) p))
    | _ => false
  | .tor t r, ast => match ast with
    | .t (.BoolOp .Or (x :: y :: ys) p) => chk k t (.t x) && chk k r (.t (.BoolOp .Or (y :: ys) p))
    | _ => false
  | .tone t, ast => match ast with
    | .t (.BoolOp _ [x] _) => chk k t (.t x)
    | _ => false
  | .tno, ast => match ast with
    | .ts [] => true
    | _ => false
  | .tyes t, ast => match ast with
    | .ts [x] => chk k t (.t x)
    | _ => false
  | .iseq a, ast => match ast with
    | .i x => chk k a (.e x)
    | _ => false
  | .irng a, ast => match ast with
    | .i (.Call (.Name x _) [y] [] _) => k.gl? x && decide (x = "range") && noStar y && chk k a (.as [y])
    | _ => false
  | .ret a, ast => match ast with
    | .s (.Return (some x) _) => chk k a (.e x)
    | _ => false
  | .retN, ast => match ast with
    | .s (.Return none _) => true
    | _ => false
  | .drop a, ast => match ast with
    | .s (.Expr x _) => noComp x && chk k a (.e x)
    | _ => false
  | .asg t a, ast => match ast with
    | .s (.Assign [tg] x _) => noComp x && (match t, x with | .tp _, .Tuple _ _ _ => false | _, _ => true) && k.tg t tg && chk k a (.e x)
    | _ => false
  | .pass, ast => match ast with
    | .s (.Pass _) => true
    | _ => false
  | .brk, ast => match ast with
    | .s (.Break _) => true
    | _ => false
  | .cont, ast => match ast with
    | .s (.Continue _) => true
    | _ => false
  | .sif t a b, ast => match ast with
    | .s (.If x ys zs _) => chk k t (.t x) && chk k a (.b ys) && chk k b (.b zs)
    | _ => false
  | .sfor it t b, ast => match ast with
    | .s (.For tg iter body [] _) => noSet iter && k.tg t tg && chk k it (.i iter) && chk k b (.b body)
    | _ => false
  | .nil, ast => match ast with
    | .b [] => true
    | _ => false
  | .seq a b, ast => match ast with
    | .b (x :: xs) => chk k a (.s x) && chk k b (.b xs)
    | _ => false
  | .frz _ b, ast => match ast with
    | .b xs => chk k b (.b xs)
    | _ => false
  | .app i a, ast => match ast with
    | .s (.Expr (.Call (.Attribute (.Name x _) n ap) [y] [] cp) _) => k.vis i x && decide (n = "append") && (ap.endLine == cp.line) && noStar y && chk k a (.e y)
    | _ => false
  | .set i kk a, ast => match ast with
    | .s (.Assign [.Subscript (.Name x _) y _] z _) => k.vis i x && noSlice y && noComp z && chk k kk (.e y) && chk k a (.e z)
    | _ => false
  | .ownL i a, ast => match ast with
    | .s (.Assign [.Name x _] (.List xs _) _) => k.loc i x && chk k a (.as xs)
    | _ => false
  | .ownC i it t own tt te, ast => match ast with
    | .s (.Assign [.Name x px] (.ListComp elt [⟨tg, iter, ifs, 0⟩] scope pos) _) => k.loc i x && (swapB k i x px scope pos || swapN k x) && (noSet iter && blkC k.N k.sc scope own && decide (∀ i ∈ t.slots, i ∈ own.map (·.2)) && (k.blk scope).tg t tg && chk k it (.i iter) && chk (k.blk scope) tt (.ts ifs) && chk (k.blk scope) te (.e elt))
    | _ => false
  | .asgC i it t own tt te, ast => match ast with
    | .s (.Assign [.Name x px] (.ListComp elt [⟨tg, iter, ifs, 0⟩] scope pos) _) => k.loc i x && (swapB k i x px scope pos || swapN k x) && (noSet iter && blkC k.N k.sc scope own && decide (∀ i ∈ t.slots, i ∈ own.map (·.2)) && (k.blk scope).tg t tg && chk k it (.i iter) && chk (k.blk scope) tt (.ts ifs) && chk (k.blk scope) te (.e elt))
    | _ => false
end SR

set_option Elab.async false
set_option linter.all false
set_option maxRecDepth 100000
set_option autoImplicit false
set_option maxHeartbeats 2000000
/-! Soundness. -/
namespace SR
open PySem PySem.Spec PyProof.Rows
open L2 hiding St

structure Gd (G : Gam) (tb : Tb) (lv : Nat) (k : CK) (W : WX) (X : Cx) : Prop where
  N : X.N = k.N
  sc : X.env.scope = k.sc
  fn : ∀ x, k.fn x = true → X.fn x = true
  nd : X.N.Nodup
  calm : X.calm = true
  K : X.K = G.K
  tk : Takes X W
  po : PassesOwn (model X.prog X.w) X.A X.env X.xe
  room : Room lv X.A
  bl : ∀ x ∈ bltNames, X.mg x = none
  gl : ∀ (i : Nat) x d, k.gl[i]? = some (x, d) → ∃ u v, X.mg x = some u ∧ RelV v u ∧ ∀ w H, Rp G w H d v
  fs : k.fs = tb.map fun e => (e.1, e.2.1)
  fns : ∀ (i : Nat) x n F, tb[i]? = some (x, [], n, F) → FnAt X G lv x n F
  kfns : ∀ (i : Nat) x u us n F, tb[i]? = some (x, u :: us, n, F) → FnKt X G lv x (u :: us) n F
  errs : ErrOk G
theorem Gd.blk {G : Gam} {tb : Tb} {lv : Nat} {k : CK} {W : WX} {X : Cx} (g : Gd G tb lv k W X) (s : Shared) (H : Hp) (scope : Scope) (Cc : Addr) (cl : List (Str × Addr)) (fp : List Addr) : Gd G tb lv (k.blk scope) W0 (X.blk s H scope (compEnvC scope cl Cc X.env) fp) where
  N := g.N
  sc := by
    show relS scope X.env.scope = relS scope k.sc
    rw [g.sc]
  fn := fun x h => h
  nd := g.nd
  calm := g.calm
  K := g.K
  tk := takes0
  po := PassesOwn.never
  room := g.room
  bl := g.bl
  gl := g.gl
  fs := g.fs
  fns := fun i x n F e => ⟨(g.fns i x n F e).ex⟩
  kfns := fun i x u us n F e => ⟨(g.kfns i x u us n F e).ex⟩
  errs := g.errs
theorem starEach_no {x : Expr} {xs : List Expr} {env : Env} (h : noStar x = true) : starEach (x :: xs) env = (false, eval x env) :: starEach xs env := by
  cases x <;> first | rfl | cases h
def Judge (G : Gam) (W : WX) (X : Cx) : Ast → Den → Prop
  | .e x, d => PE X x (tM G W d.e)
  | .t x, d => PT X x (tMT G W d.t) ∧ ((∃ op vs p, x = .BoolOp op vs p) → PW X x (tMT G W d.t))
  | .as xs, d => PA X xs (tMA G W d.a) ∧ ∀ x ∈ xs, noStar x = true
  | .ks xs, d => PK X xs (tMA G W d.a)
  | .ps ks vs, d => JPairs G X ks vs d.a
  | .o x, d => PO X x (tMO G W d.o)
  | .i x, d => ∀ tg, PI X tg x (tMI G W d.i)
  | .ts xs, d => PTs X xs (tMT G W d.t)
  | .s x, d => PS X x (tMS G W d.s)
  | .b xs, d => PSs X xs (tMS G W d.s)
theorem noStar_any {pos : Pos} {env : Env} : ∀ {xs : List Expr}, (∀ x ∈ xs, noStar x = true) → (backTo pos (starEach xs env)).any (·.1) = false
  | [], _ => rfl
  | x :: xs, h => by
    rw [starEach_no (h x List.mem_cons_self)]
    show (false || (backTo pos (starEach xs env)).any (·.1)) = false
    rw [noStar_any fun y hy => h y (List.mem_cons_of_mem _ hy)]
    rfl
theorem noStar_all {pos : Pos} {env : Env} : ∀ {xs : List Expr}, (∀ x ∈ xs, noStar x = true) → (backTo pos (starEach xs env)).all (fun x => !x.1) = true
  | [], _ => rfl
  | x :: xs, h => by
    rw [starEach_no (h x List.mem_cons_self)]
    show (true && (backTo pos (starEach xs env)).all (fun x => !x.1)) = true
    rw [noStar_all fun y hy => h y (List.mem_cons_of_mem _ hy)]
    rfl
theorem plain_of {x : Str} (h : plainName x = true) : (x == ("__debug__" : Str)) = false ∧ (x == ("__classdict__" : Str)) = false ∧ x ≠ "__name__" := by
  unfold plainName at h
  simp only [Bool.and_eq_true, Bool.not_eq_true'] at h
  exact ⟨h.1.1, h.1.2, fun e => by rw [e] at h; exact absurd h.2 (by decide +kernel)⟩
section
variable {G : Gam} {tb : Tb} {lv : Nat} {k : CK} {W : WX} {X : Cx}
theorem Gd.gl_of (g : Gd G tb lv k W X) {x : Str} (h : k.gl? x = true) : Gl X x ∧ (x == ("__debug__" : Str)) = false ∧ x ≠ "__name__" := by
  unfold CK.gl? at h
  simp only [Bool.and_eq_true] at h
  obtain ⟨h1, h2⟩ := h
  refine ⟨?_, (plain_of h1).1, (plain_of h1).2.2⟩
  show X.env.scope.names.lookup x = some .globalImplicit
  rw [g.sc]
  split at h2
  · assumption
  · cases h2
theorem Gd.vis_of (g : Gd G tb lv k W X) {i : Nat} {x : Str} (h : k.vis i x = true) : X.N[i]? = some x ∧ Vis X.env.scope x ∧ (x == ("__debug__" : Str)) = false ∧ (x == ("__classdict__" : Str)) = false := by
  unfold CK.vis at h
  simp only [Bool.and_eq_true, decide_eq_true_eq] at h
  obtain ⟨⟨h1, h2⟩, h3⟩ := h
  refine ⟨by rw [g.N]; exact h1, ?_, (plain_of h2).1, (plain_of h2).2.1⟩
  rw [g.sc]
  split at h3
  · exact .inl (by assumption)
  · exact .inr (.inl (by assumption))
  · exact .inr (.inr (by assumption))
  · cases h3
theorem Gd.loc_of (g : Gd G tb lv k W X) {i : Nat} {x : Str} (h : k.loc i x = true) : X.N[i]? = some x ∧ Loc X.env.scope x ∧ (X.fn x = true ∨ X.env.scope.names.lookup x = some .local) := by
  unfold CK.loc at h
  simp only [Bool.and_eq_true, decide_eq_true_eq] at h
  obtain ⟨h1, h3⟩ := h
  refine ⟨by rw [g.N]; exact h1, ?_⟩
  rw [g.sc]
  split at h3
  · exact ⟨.inl (by assumption), .inr (by assumption)⟩
  · exact ⟨.inr (by assumption), .inl (g.fn x h3)⟩
  · cases h3
theorem pg_names (g : Gd G tb lv k W X) : ∀ {is : List Nat} {es : List Expr}, k.names is es = true → PGs X es (gTs is) ∧ (assignEach es X.env).length = is.length ∧ ∀ x ∈ assignEach es X.env, x.1 = false
  | [], [], _ => ⟨pgs_nil, rfl, fun _ z => nomatch z⟩
  | i :: is, .Name x p :: es, h => by
    unfold CK.names at h
    simp only [Bool.and_eq_true] at h
    obtain ⟨h1, h2, h3⟩ := g.loc_of h.1
    obtain ⟨h4, h5, h6⟩ := pg_names g h.2
    refine ⟨pgs_cons (pg_name g.nd h1 h2 h3) h4, ?_, fun y hy => ?_⟩
    · show (assignEach es X.env).length + 1 = is.length + 1
      rw [h5]
    · rcases List.mem_cons.mp hy with z | z
      · rw [z]
      · exact h6 y z
  | [], _ :: _, h => by cases h
  | _ :: _, [], h => by cases h
theorem Gd.tg (g : Gd G tb lv k W X) {t : Tg} {e : Expr} (h : k.tg t e = true) : PG X e (gT G.K t) := by
  unfold CK.tg at h
  split at h
  · obtain ⟨h1, h2, h3⟩ := g.loc_of h
    exact pg_name g.nd h1 h2 h3
  · obtain ⟨h1, h2, h3⟩ := pg_names g h
    have := pg_tup (pos := by assumption) (k := by assumption) g.calm h1 h2 (List.findIdx?_eq_none_iff.mpr h3)
    rw [g.K] at this
    exact this
  · cases h

/-! ### what the rules want -/
theorem Gd.units (g : Gd G tb lv k W X) : X.A.units + 64 < cLine := g.room.units
theorem Gd.units65 (g : Gd G tb lv k W X) : X.A.units + 65 < cLine := by have := g.room.un; omega
theorem bin_ok (g : Gd G tb lv k W X) {op : Bin} {a b : Expr} {pos : Pos} {ma mb : ME} (ha : PE X a (tM G W ma)) (hb : PE X b (tM G W mb)) : PE X (.BinOp a op.op b pos) (tM G W (m2 ma mb op.f)) := by
  cases op with
  | add =>
    have ho := @op_addAll X
    rw [g.K] at ho
    exact je_op ho opD_add ha hb
  | sub => exact je_op op_sub opD_sub ha hb
  | mul => exact je_op op_mul opD_mul ha hb
  | div => exact je_op op_fdiv opD_div ha hb
  | mod => exact je_op op_mod opD_mod ha hb
  | pow => exact je_op op_pow opD_pow ha hb
theorem cm_op {op : Cm} : OpR X (compareOp op.op) (rI0 fun i j => .bl (op.g i j)) := by
  cases op with
  | lt => exact op_lt
  | le => exact op_le
  | gt => exact op_gt
  | ge => exact op_ge
theorem cm_mark {op : Cm} (b : Expr) : behindInMarks op.op b = false := by
  cases op <;> exact nomark b
theorem ce_ok (g : Gd G tb lv k W X) {op : Ce} : ∃ r, OpR X (compareOp op.op) r ∧ OpD G r op.f := by
  cases op with
  | eq =>
    have ho := @op_eqD X g.units
    have ho2 := @op_eqH X g.units
    rw [g.K] at ho ho2
    exact ⟨_, OpR.or ho ho2, opD_eq3⟩
  | ne =>
    have ho := @op_neD X g.units
    rw [g.K] at ho
    exact ⟨_, ho, opD_ne⟩
  | isin =>
    have ho := @op_inD X g.units65
    rw [g.K] at ho
    exact ⟨_, OpR.or op_in_str ho, opD_in⟩
  | notin =>
    have ho := @op_notInD X g.units65
    rw [g.K] at ho
    exact ⟨_, OpR.or op_notin_str ho, opD_notIn⟩
theorem noSet_mark {op : CmpOp} {b : Expr} (h : noSet b = true) : behindInMarks op b = false := by
  cases b <;> first | rfl | cases h
theorem noSet_fold {e : Expr} {env : Env} (h : noSet e = true) : ∀ x, foldedSetIterable e env x = pure x := by
  intro x
  cases e <;> first | rfl | cases h
theorem noSlice_ix {b : Expr} (h : noSlice b = true) : PlainIx b := by
  intro o i
  cases b <;> first | rfl | cases h
theorem noComp_swap {e : Expr} {t : Option Expr} {l : Nat} {env : Env} (h : noComp e = true) : swapsWith e t l env = pure false := by
  cases e <;> first | rfl | cases h
theorem plainT_true {e : Expr} {env : Env} (h : plainT e = true) : ∀ whole, isTrue e env whole = (do let v ← whole; standAt e.pos; holding [v] (truthy v)) := by
  intro whole
  cases e with
  | UnaryOp op a p => cases op <;> first | rfl | cases h
  | BoolOp _ _ _ => cases h
  | IfExp _ _ _ _ => cases h
  | Compare _ _ _ _ => cases h
  | _ => rfl
theorem noCall_base {o : Expr} {name : Str} {env : Env} (h : noCall o = true) : attributeBase o name env (eval o env) = eval o env := by
  cases o <;> first | rfl | cases h
theorem PE.w0 {e : Expr} {m : ME} (h : PE X e (tM G W m)) : PE X e (tM G W0 m) := PE.mono h fun σ H Q ⟨w, env, s, H0, k, er, p⟩ => ⟨w, env, s, H0, k, er, p.imp (fun _ _ _ _ _ _ z => z) fun _ _ _ z => z.elim⟩
/-! ### comprehensions -/
theorem tm_compF {mi : MI} {t : Tg} {vs : List Nat} {tt : MT} {te : ME} (hv : ∀ i ∈ t.slots, i ∈ vs) {σ : Sg} {H : Hp} {Q : VK} (h : tMF G W (mCompF mi t vs tt te) σ H Q) : tLc (tMI G W mi) (gT G.K t) (tMT G W0 tt) (tM G W0 te) vs σ H Q := by
  obtain ⟨w, env, s, H0, kk, er, p⟩ := h
  refine ⟨w, env, s, H0, kk, er, (Post.bind p).imp (fun q s1 w1 H1 x1 k1 p1 J hE hP D nD => ?_) fun _ _ _ z => z⟩
  refine comp_core hv (er.ext kk x1) k1 hE nD p1 fun acc s wl H2 accv hR x k2 eD pD mD ra => ?_
  exact hR wl H2 x k2 D accv (x1.dom D nD) pD mD eD ra
/-- the parts of a comprehension -/
structure Parts (G : Gam) (W : WX) (X : Cx) (elt tg iter : Expr) (ifs : List Expr) (scope : Scope) (mi : MI) (t : Tg) (own : List (Str × Nat)) (tt : MT) (te : ME) : Prop where
  hi : PI X tg iter (tMI G W mi)
  ok : BlkOk X.N X.env.scope scope own
  hg : ∀ (s : Shared) (H : Hp) (C : Addr) (cl : List (Str × Addr)) (fp : List Addr), PG (X.blk s H scope (compEnvC scope cl C X.env) fp) tg (gT G.K t)
  ht : ∀ (s : Shared) (H : Hp) (C : Addr) (cl : List (Str × Addr)) (fp : List Addr), PTs (X.blk s H scope (compEnvC scope cl C X.env) fp) ifs (tMT G W0 tt)
  he : ∀ (s : Shared) (H : Hp) (C : Addr) (cl : List (Str × Addr)) (fp : List Addr), PE (X.blk s H scope (compEnvC scope cl C X.env) fp) elt (tM G W0 te)
  hv : ∀ i ∈ t.slots, i ∈ own.map (·.2)
  hs : ∀ x, foldedSetIterable iter X.env x = pure x
theorem Parts.pe {elt tg iter : Expr} {ifs : List Expr} {scope : Scope} {mi : MI} {t : Tg} {own : List (Str × Nat)} {tt : MT} {te : ME} {pos : Pos} (g : Gd G tb lv k W X) (P : Parts G W X elt tg iter ifs scope mi t own tt te) :
    PE X (.ListComp elt [⟨tg, iter, ifs, 0⟩] scope pos) (tLc (tMI G W mi) (gT G.K t) (tMT G W0 tt) (tM G W0 te) (own.map (·.2))) := pe_lc g.calm g.nd P.hi P.ok P.hg P.ht P.he P.hs
theorem swap_ps {elt tg iter : Expr} {ifs : List Expr} {scope : Scope} {mi : MI} {t : Tg} {own : List (Str × Nat)} {tt : MT} {te : ME} {pos px spos : Pos} {i : Nat} {x : Str} (g : Gd G tb lv k W X) (P : Parts G W X elt tg iter ifs scope mi t own tt te) (hl : k.loc i x = true) (h : (swapB k i x px scope pos || swapN k x) = true) :
    PS X (.Assign [.Name x px] (.ListComp elt [⟨tg, iter, ifs, 0⟩] scope pos) spos) (tAsg (tLc (tMI G W mi) (gT G.K t) (tMT G W0 tt) (tM G W0 te) (own.map (·.2))) (gName i)) := by
  obtain ⟨h1, h2, h3⟩ := g.loc_of hl
  rcases Bool.or_eq_true_iff.mp h with h | h
  · unfold swapB at h
    simp only [Bool.and_eq_true, decide_eq_true_eq] at h
    obtain ⟨⟨⟨⟨e1, e2⟩, e3⟩, e4⟩, e5⟩ := h
    have q1 : X.env.scope.kind = .function := by
      rw [g.sc]
      split at e2
      · assumption
      · cases e2
    have q2 : X.env.scope.names.lookup x = some .local := by
      rw [g.sc]
      split at e3
      · assumption
      · cases e3
    exact ps_setLc g.calm g.nd h1 q2 (sw_true q1 q2 e4 (by simpa using e5)) P.hi P.ok P.hg P.ht P.he P.hs
  · unfold swapN at h
    have q2 : X.env.scope.names.lookup x = some .cell := by
      rw [g.sc]
      split at h
      · assumption
      · cases h
    refine ps_set g.nd h1 h2 (P.pe g) ?_ h3
    unfold swapsWith
    have ky : X.env.kindOf x = some .cell := q2
    have kz : (NameKind.cell == NameKind.local) = false := rfl
    simp [ky, kz]
end
end SR

set_option Elab.async false
set_option linter.all false
set_option maxRecDepth 100000
set_option autoImplicit false
set_option maxHeartbeats 4000000
/-! Soundness of the check. -/
namespace SR
open PySem PySem.Spec PyProof.Rows
open L2 hiding St

section
variable {G : Gam} {tb : Tb} {lv : Nat}
theorem noComp_sole {e t : Expr} {l : Nat} {env : Env} (h : noComp e = true) : swapsWithSole [t] e l env = pure false := noComp_swap h
theorem bl_mem {f : Bl} : f.name ∈ bltNames := by cases f <;> decide +kernel
theorem blt_ok {k : CK} {W : WX} {X : Cx} (g : Gd G tb lv k W X) {f : Bl} {p pos : Pos} {e : Expr} {es : List Expr} {ma : MA} (hg : k.gl? f.name = true) (ha : PA X (e :: es) (tMA G W ma)) (hn : ∀ x ∈ e :: es, noStar x = true) : PE X (.Call (.Name f.name p) (e :: es) [] pos) (tM G W (mB f.f ma)) := by
  obtain ⟨h1, h2, h3⟩ := g.gl_of hg
  have hm := g.bl _ (bl_mem (f := f))
  have hs : starEach (e :: es) X.env = (false, eval e X.env) :: starEach es X.env := starEach_no (hn e List.mem_cons_self)
  have hp : (backTo pos (starEach es X.env)).any (·.1) = false := noStar_any fun x hx => hn x (List.mem_cons_of_mem _ hx)
  cases f with
  | len =>
    have hc := @call_lenAll X
    rw [g.K] at hc
    exact je_blt hc callD_len h1 hm (by decide +kernel) ha h3 h2 hs hp
  | int1 => exact je_bty call_int1 callD_int1 h1 hm (by decide +kernel) ha h3 h2 hs hp
  | abs => exact je_blt call_abs callD_abs h1 hm (by decide +kernel) ha h3 h2 hs hp
  | list =>
    have hc := @call_list_of X
    rw [g.K] at hc
    exact je_bty hc callD_list h1 hm (by decide +kernel) ha h3 h2 hs hp
  | tuple =>
    have hc := @call_tuple_of X
    rw [g.K] at hc
    exact je_bty hc callD_tuple h1 hm (by decide +kernel) ha h3 h2 hs hp
theorem sm_ok {k : CK} {W : WX} {X : Cx} (g : Gd G tb lv k W X) {f : Sm} {ap cp : Pos} {o e : Expr} {es : List Expr} {mo : ME} {ma : MA} (ho : PE X o (tM G W mo)) (ha : PA X (e :: es) (tMA G W ma)) (hn : ∀ x ∈ e :: es, noStar x = true) (hc : noCall o = true) (hl : (ap.endLine == cp.line) = true) (h30 : (e :: es).length < 30) :
    PE X (.Call (.Attribute o f.name ap) (e :: es) [] cp) (tM G W (mMs f.f mo ma)) := by
  have hs : starEach (e :: es) X.env = (false, eval e X.env) :: starEach es X.env := starEach_no (hn e List.mem_cons_self)
  have hp : (backTo cp (starEach es X.env)).any (·.1) = false := noStar_any fun x hx => hn x (List.mem_cons_of_mem _ hx)
  have hf : ((backTo cp (starEach (e :: es) X.env)).all (fun x => !x.1) && (backToKw cp (keywordEach [] X.env)).all (fun x => x.1.isSome) && decide ((e :: es).length + ([] : List Keyword).length + (if ([] : List Keyword).isEmpty then 0 else 1) < 30)) = true := by
    rw [noStar_all hn]
    show (true && true && decide ((e :: es).length + 0 + 0 < 30)) = true
    rw [decide_eq_true (show (e :: es).length + 0 + 0 < 30 from h30)]
    rfl
  cases f with
  | join =>
    have hm := @mt_join X
    rw [g.K] at hm
    exact je_smeth PySem.F.slot_str_join PySem.F.type_str_join hm mtD_join ho ha (noCall_base hc) hf hl hs hp
theorem call0_any {W : WX} {X : Cx} {x : Str} {n : Nat} {F : Fn} {p pos : Pos} (hf : FnAt X G lv x n F) (hr : Room lv X.A) (hg : Gl X x) (tk : Takes X W) (hdb : (x == ("__debug__" : Str)) = false) : PE X (.Call (.Name x p) [] [] pos) (tM G W (mCall n F aNil)) := by
  by_cases hn : n = 0
  · subst hn
    exact je_call0 hf hr hg tk hdb
  · refine ⟨fun pins s σ H Q I h => ?_⟩
    obtain ⟨w, env, s', H0, k, er, p⟩ := h
    have e : mCall n F aNil env s' = .fail := by
      show (if ([] : List D).length = n then _ else Res.fail) = Res.fail
      exact if_neg fun z => hn z.symm
    rw [e] at p
    exact p.elim
theorem anil_of {k : CK} {a : C} (h : chk k a (.as []) = true) : a = .anil := by
  cases a <;> first | rfl | (unfold chk at h; cases h)
/-- every piece of code that the check accepts tells what the text does -/
theorem sound : ∀ (c : C) {k : CK} {W : WX} {X : Cx} (g : Gd G tb lv k W X) (ast : Ast), chk k c ast = true → Judge G W X ast (den k.gl tb c)
  | .var i, k, W, X, g, ast, h => by
    unfold chk at h
    split at h
    · obtain ⟨h1, h2, h3, h4⟩ := g.vis_of h
      exact je_var h1 h2 h3 h4
    · cases h
  | .int n, k, W, X, g, ast, h => by
    unfold chk at h
    split at h
    · cases of_decide_eq_true h
      exact je_c pe_int fun _ _ => .int _
    · cases h
  | .bl n, k, W, X, g, ast, h => by
    unfold chk at h
    split at h
    · cases eq_of_beq h
      exact je_c pe_bl fun _ _ => .bl _
    · cases h
  | .str n, k, W, X, g, ast, h => by
    unfold chk at h
    split at h
    · cases of_decide_eq_true h
      exact je_c pe_str fun _ _ => .str _
    · cases h
  | .non, k, W, X, g, ast, h => by
    unfold chk at h
    split at h
    · exact je_c pe_non fun _ _ => .non
    · cases h
  | .glob i, k, W, X, g, ast, h => by
    unfold chk at h
    split at h
    · rename_i x p
      simp only [Bool.and_eq_true] at h
      obtain ⟨h1, h2⟩ := h
      obtain ⟨h3, h4, h5⟩ := g.gl_of h1
      show PE X (.Name x p) (tM G W (mGlob k.gl i))
      unfold mGlob
      split at h2
      · rename_i y d e
        cases of_decide_eq_true h2
        obtain ⟨u, v, e1, r, q⟩ := g.gl i x d e
        exact je_c (pe_glob h3 e1 r h4) q
      · cases h2
    · cases h
  | .bin op a b, k, W, X, g, ast, h => by
    unfold chk at h
    split at h
    · simp only [Bool.and_eq_true, decide_eq_true_eq] at h
      obtain ⟨⟨rfl, ha⟩, hb⟩ := h
      exact bin_ok g (sound a g _ ha) (sound b g _ hb)
    · cases h
  | .neg a, k, W, X, g, ast, h => by
    unfold chk at h
    split at h
    · exact je_neg (sound a g _ h)
    · cases h
  | .cmp op a b, k, W, X, g, ast, h => by
    unfold chk at h
    split at h
    · simp only [Bool.and_eq_true, decide_eq_true_eq] at h
      obtain ⟨⟨rfl, ha⟩, hb⟩ := h
      exact je_cmp cm_op opD_lt (sound a g _ ha) (sound b g _ hb) (cm_mark _)
    · simp only [Bool.and_eq_true, decide_eq_true_eq] at h
      obtain ⟨⟨rfl, ha⟩, hb⟩ := h
      exact ⟨jt_cmp cm_op opD_lt (sound a g _ ha) (sound b g _ hb) (cm_mark _), fun ⟨_, _, _, z⟩ => nomatch z⟩
    · cases h
  | .cme op a b, k, W, X, g, ast, h => by
    unfold chk at h
    obtain ⟨r, h1, h2⟩ := ce_ok (op := op) g
    split at h
    · simp only [Bool.and_eq_true, decide_eq_true_eq] at h
      obtain ⟨⟨⟨rfl, hs⟩, ha⟩, hb⟩ := h
      exact je_cmp h1 h2 (sound a g _ ha) (sound b g _ hb) (noSet_mark hs)
    · simp only [Bool.and_eq_true, decide_eq_true_eq] at h
      obtain ⟨⟨⟨rfl, hs⟩, ha⟩, hb⟩ := h
      exact ⟨jt_cmp h1 h2 (sound a g _ ha) (sound b g _ hb) (noSet_mark hs), fun ⟨_, _, _, z⟩ => nomatch z⟩
    · cases h
  | .chain op op' a b c, k, W, X, g, ast, h => by
    unfold chk at h
    split at h
    · simp only [Bool.and_eq_true, decide_eq_true_eq] at h
      obtain ⟨⟨⟨⟨rfl, rfl⟩, ha⟩, hb⟩, hc⟩ := h
      exact PE.mono (pe_chain cm_op cm_op (sound a g _ ha) (sound b g _ hb) (sound c g _ hc) (cm_mark (op := op') _)) fun _ _ _ h => tmChain h
    · simp only [Bool.and_eq_true, decide_eq_true_eq] at h
      obtain ⟨⟨⟨⟨rfl, rfl⟩, ha⟩, hb⟩, hc⟩ := h
      refine ⟨PT.mono (pt_chain cm_op cm_op (sound a g _ ha) (sound b g _ hb) (sound c g _ hc) (cm_mark (op := op') _)) fun σ H Q h => ?_, fun ⟨_, _, _, z⟩ => nomatch z⟩
      exact tmChain (tmB h)
    · cases h
  | .notV a, k, W, X, g, ast, h => by
    unfold chk at h
    split at h
    · exact je_not (sound a g _ h)
    · cases h
  | .andV a b, k, W, X, g, ast, h => by
    unfold chk at h
    split at h
    · simp only [Bool.and_eq_true] at h
      exact je_and (sound a g _ h.1) (sound b g _ h.2)
    · cases h
  | .orV a b, k, W, X, g, ast, h => by
    unfold chk at h
    split at h
    · simp only [Bool.and_eq_true] at h
      exact je_or (sound a g _ h.1) (sound b g _ h.2)
    · cases h
  | .one a, k, W, X, g, ast, h => by
    unfold chk at h
    split at h
    · exact pe_one (sound a g _ h)
    · cases h
  | .ife t a b, k, W, X, g, ast, h => by
    unfold chk at h
    split at h
    · simp only [Bool.and_eq_true] at h
      exact je_if (sound t g _ h.1.1).1 (sound a g _ h.1.2) (sound b g _ h.2)
    · cases h
  | .ix a b, k, W, X, g, ast, h => by
    unfold chk at h
    split at h
    · simp only [Bool.and_eq_true] at h
      have ho := @ix_seq X
      rw [g.K] at ho
      exact je_ix ho opD_ix (sound a g _ h.1.2) (sound b g _ h.2) (noSlice_ix h.1.1)
    · cases h
  | .sl a lo hi, k, W, X, g, ast, h => by
    unfold chk at h
    split at h
    · simp only [Bool.and_eq_true] at h
      exact je_slice g.K (sound a g _ h.1.1) (sound lo g _ h.1.2) (sound hi g _ h.2)
    · cases h
  | .rev a, k, W, X, g, ast, h => by
    unfold chk at h
    split at h
    · exact je_rev g.K (sound a g _ h)
    · cases h
  | .lst a, k, W, X, g, ast, h => by
    unfold chk at h
    split at h
    · exact je_lst (sound a g _ h).1 (pe_lst (sound a g _ h).1)
    · cases h
  | .tup a, k, W, X, g, ast, h => by
    unfold chk at h
    split at h
    · exact je_tup (pe_tup (sound a g _ h).1)
    · cases h
  | .call i a, k, W, X, g, ast, h => by
    unfold chk at h
    split at h
    · rename_i x p xs pos
      simp only [Bool.and_eq_true, decide_eq_true_eq] at h
      obtain ⟨⟨h1, h2⟩, h3⟩ := h
      obtain ⟨h4, h5, h6⟩ := g.gl_of h1
      obtain ⟨ha, hn⟩ := sound a g _ h3
      show PE X (.Call (.Name x p) xs [] pos) (tM G W (mCallT tb i (den k.gl tb a).a))
      rw [g.fs, List.getElem?_map] at h2
      obtain ⟨⟨y, u, n, F⟩, e, eq⟩ := Option.map_eq_some_iff.mp h2
      simp only [Prod.mk.injEq] at eq
      obtain ⟨rfl, rfl⟩ := eq
      unfold mCallT
      rw [e]
      cases xs with
      | nil =>
        cases anil_of h3
        exact call0_any (g.fns i y n F e) g.room h4 g.tk h5
      | cons z zs => exact je_call (g.fns i y n F e) g.room h4 g.tk ha h5 (starEach_no (hn z List.mem_cons_self)) (noStar_any fun x hx => hn x (List.mem_cons_of_mem _ hx))
    · cases h
  | .callk i a, k, W, X, g, ast, h => by
    unfold chk at h
    split at h
    · rename_i x p kw kws pos
      simp only [Bool.and_eq_true] at h
      obtain ⟨⟨h1, h2⟩, h3⟩ := h
      obtain ⟨h4, h5, h6⟩ := g.gl_of h1
      split at h2
      · rename_i y u us e
        simp only [Bool.and_eq_true, decide_eq_true_eq] at h2
        obtain ⟨rfl, h2⟩ := h2
        rw [g.fs, List.getElem?_map] at e
        obtain ⟨⟨y, v, n, F⟩, e, eq⟩ := Option.map_eq_some_iff.mp e
        simp only [Prod.mk.injEq] at eq
        obtain ⟨rfl, rfl⟩ := eq
        show PE X (.Call (.Name y p) [] (kw :: kws) pos) (tM G W (mCallT tb i (den k.gl tb a).a))
        unfold mCallT
        rw [e]
        exact je_callk (g.kfns i y u us n F e) g.room h4 g.tk (sound a g _ h3) h5 h2
      · cases h2
    · cases h
  | .blt f a, k, W, X, g, ast, h => by
    unfold chk at h
    split at h
    · simp only [Bool.and_eq_true, decide_eq_true_eq] at h
      obtain ⟨⟨h1, rfl⟩, h3⟩ := h
      obtain ⟨ha, hn⟩ := sound a g _ h3
      exact blt_ok g h1 ha hn
    · cases h
  | .isi x T a, k, W, X, g, ast, h => by
    unfold chk at h
    split at h
    · simp only [Bool.and_eq_true, decide_eq_true_eq] at h
      obtain ⟨⟨⟨⟨⟨⟨⟨h1, rfl⟩, h3⟩, rfl⟩, hb⟩, h5⟩, h6⟩, h7⟩ := h
      obtain ⟨q1, q2, q3⟩ := g.gl_of h1
      obtain ⟨q4, q5, q6⟩ := g.gl_of h3
      exact je_isi g.K q1 (g.bl _ (by decide +kernel)) q4 (g.bl _ hb) h5 q6 q5 (sound a g _ h7) (starEach_no h6)
    · cases h
  | .isx a b, k, W, X, g, ast, h => by
    unfold chk at h
    split at h
    · simp only [Bool.and_eq_true, decide_eq_true_eq] at h
      obtain ⟨⟨⟨⟨⟨h1, rfl⟩, h3⟩, h4⟩, h5⟩, h6⟩ := h
      obtain ⟨q1, q2, q3⟩ := g.gl_of h1
      exact je_isx g.errs g.K q1 (g.bl _ (by decide +kernel)) (sound a g _ h5) (sound b g _ h6) (starEach_no h3) (starEach_no h4)
    · cases h
  | .bty x, k, W, X, g, ast, h => by
    unfold chk at h
    split at h
    · simp only [Bool.and_eq_true, decide_eq_true_eq] at h
      obtain ⟨⟨h1, rfl⟩, rfl⟩ := h
      obtain ⟨q1, q2, q3⟩ := g.gl_of h1
      have hx : ∀ p, PE X (.Name "ValueError" p) (tC (.ty "ValueError")) := fun p => pe_bltn q1 (g.bl _ (by decide +kernel)) (by decide +kernel) rfl q3 q2
      exact PE.mono (hx _) fun σ H Q ⟨w, env, s, H0, k, er, p⟩ => p w H (Ext.refl _ _) k _ (.v (.cls g.errs.1))
    · cases h
  | .fld n a, k, W, X, g, ast, h => by
    unfold chk at h
    split at h
    · simp only [Bool.and_eq_true, decide_eq_true_eq] at h
      obtain ⟨⟨⟨rfl, h2⟩, h3⟩, h4⟩ := h
      exact je_fld g.errs g.K h2 (sound a g _ h4) (noCall_base h3)
    · cases h
  | .sm f o a, k, W, X, g, ast, h => by
    unfold chk at h
    split at h
    · simp only [Bool.and_eq_true, decide_eq_true_eq] at h
      obtain ⟨⟨⟨⟨⟨rfl, h1⟩, h2⟩, h3⟩, h4⟩, h5⟩ := h
      obtain ⟨ha, hn⟩ := sound a g _ h5
      exact sm_ok g (sound o g _ h4) ha hn h1 h2 h3
    · cases h
  | .comp it t own tt te, k, W, X, g, ast, h => by
    unfold chk at h
    split at h
    · simp only [Bool.and_eq_true, decide_eq_true_eq] at h
      obtain ⟨⟨⟨⟨⟨⟨h1, h2⟩, h3⟩, h4⟩, h5⟩, h6⟩, h7⟩ := h
      have P : Parts G W X _ _ _ _ _ (den k.gl tb it).i t own (den k.gl tb tt).t (den k.gl tb te).e := ⟨sound it g _ h5 _, by rw [g.N, g.sc]; exact blkOk_by h2, fun s H C cl fp => (g.blk s H _ C cl fp).tg h4, fun s H C cl fp => sound tt (g.blk s H _ C cl fp) _ h6, fun s H C cl fp => sound te (g.blk s H _ C cl fp) _ h7, h3, noSet_fold h1⟩
      exact PE.mono (P.pe g) fun _ _ _ q => tm_comp P.hv q
    · cases h
  | .newL a, k, W, X, g, ast, h => by
    unfold chk at h
    split at h
    · exact je_newL (pe_lst (sound a g _ h).1)
    · cases h
  | .appO o a, k, W, X, g, ast, h => by
    unfold chk at h
    split at h
    · simp only [Bool.and_eq_true, decide_eq_true_eq] at h
      obtain ⟨⟨⟨⟨⟨rfl, h2⟩, h3⟩, h4⟩, h5⟩, h6⟩ := h
      have hs : starEach [_] X.env = (false, eval _ X.env) :: starEach [] X.env := starEach_no h3
      refine PE.mono (pe_bm PySem.F.plainAttrs_list PySem.F.slot_list_append PySem.F.type_list_append mt_append (sound o g _ h5) (pa_cons (sound a g _ h6) pa_nil hs) (noCall_base h4) ?_ h2 hs (by rfl)) fun _ _ _ q => tm_appO q
      rw [noStar_all fun y hy => by rw [List.mem_singleton.mp hy]; exact h3]
      rfl
    · cases h
  | .dct a, k, W, X, g, ast, h => by
    unfold chk at h
    split at h
    · rename_i ks vs pos
      simp only [Bool.and_eq_true, decide_eq_true_eq, Bool.not_eq_true'] at h
      obtain ⟨⟨⟨⟨h1, h2⟩, h3⟩, h4⟩, h5⟩ := h
      exact je_dct (sound a g _ h5) h1 h2 (fun e => by rw [e] at h3; cases h3) h4
    · cases h
  | .dct0, k, W, X, g, ast, h => by
    unfold chk at h
    split at h
    · exact je_dct0
    · cases h
  | .newD a, k, W, X, g, ast, h => by
    unfold chk at h
    split at h
    · rename_i ks vs pos
      simp only [Bool.and_eq_true, decide_eq_true_eq, Bool.not_eq_true'] at h
      obtain ⟨⟨⟨⟨h1, h2⟩, h3⟩, h4⟩, h5⟩ := h
      exact je_newD (sound a g _ h5) h1 h2 (fun e => by rw [e] at h3; cases h3) h4
    · cases h
  | .ixd a b, k, W, X, g, ast, h => by
    unfold chk at h
    split at h
    · simp only [Bool.and_eq_true] at h
      obtain ⟨⟨h1, h2⟩, h3⟩ := h
      exact je_ix (ix_dct (by have := g.units; omega)) opD_ixd (sound a g _ h2) (sound b g _ h3) (noSlice_ix h1)
    · cases h
  | .pnil, k, W, X, g, ast, h => by
    unfold chk at h
    split at h
    · exact jp_nil
    · cases h
  | .pcons a b r, k, W, X, g, ast, h => by
    unfold chk at h
    split at h
    · simp only [Bool.and_eq_true] at h
      exact jp_cons (PE.w0 (sound a g _ h.1.1)) (PE.w0 (sound b g _ h.1.2)) (sound r g _ h.2)
    · cases h
  | .setO o kk a, k, W, X, g, ast, h => by
    unfold chk at h
    split at h
    · simp only [Bool.and_eq_true] at h
      obtain ⟨⟨⟨⟨h1, h2⟩, h3⟩, h4⟩, h5⟩ := h
      exact PS.mono (ps_dput (by have := g.units; omega) (sound o g _ h3) (sound kk g _ h4) (sound a g _ h5) (noComp_swap h2)) fun _ _ _ q => tm_setO q
    · cases h
  | .pno, k, W, X, g, ast, h => by
    unfold chk at h
    split at h
    · exact jo_none
    · cases h
  | .pso a, k, W, X, g, ast, h => by
    unfold chk at h
    split at h
    · exact jo_some (sound a g _ h)
    · cases h
  | .anil, k, W, X, g, ast, h => by
    unfold chk at h
    split at h
    · exact ⟨ja_nil, fun _ z => nomatch z⟩
    · exact jk_nil
    · cases h
  | .acons a r, k, W, X, g, ast, h => by
    unfold chk at h
    split at h
    · simp only [Bool.and_eq_true] at h
      obtain ⟨⟨h1, h2⟩, h3⟩ := h
      obtain ⟨hr, hn⟩ := sound r g _ h3
      refine ⟨ja_cons (sound a g _ h2) hr (starEach_no h1), fun y hy => ?_⟩
      rcases List.mem_cons.mp hy with z | z
      · rw [z]; exact h1
      · exact hn y z
    · simp only [Bool.and_eq_true] at h
      exact jk_cons (sound a g _ h.1) (sound r g _ h.2)
    · cases h
  | .tv a, k, W, X, g, ast, h => by
    unfold chk at h
    split at h
    · simp only [Bool.and_eq_true] at h
      refine ⟨jt_val (sound a g _ h.2) (plainT_true h.1), fun ⟨_, _, _, z⟩ => ?_⟩
      subst z
      cases h.1
    · cases h
  | .tnot t, k, W, X, g, ast, h => by
    unfold chk at h
    split at h
    · exact ⟨jt_not (sound t g _ h).1, fun ⟨_, _, _, z⟩ => nomatch z⟩
    · cases h
  | .tand t r, k, W, X, g, ast, h => by
    unfold chk at h
    split at h
    · simp only [Bool.and_eq_true] at h
      have hw := jw_and (sound t g _ h.1).1 ((sound r g _ h.2).2 ⟨_, _, _, rfl⟩)
      exact ⟨hw.pt, fun _ => hw⟩
    · cases h
  | .tor t r, k, W, X, g, ast, h => by
    unfold chk at h
    split at h
    · simp only [Bool.and_eq_true] at h
      have hw := jw_or (sound t g _ h.1).1 ((sound r g _ h.2).2 ⟨_, _, _, rfl⟩)
      exact ⟨hw.pt, fun _ => hw⟩
    · cases h
  | .tone t, k, W, X, g, ast, h => by
    unfold chk at h
    split at h
    · rename_i op x p
      cases op with
      | And => exact ⟨(pw_and1 (sound t g _ h).1).pt, fun _ => pw_and1 (sound t g _ h).1⟩
      | Or => exact ⟨(pw_or1 (sound t g _ h).1).pt, fun _ => pw_or1 (sound t g _ h).1⟩
    · cases h
  | .tno, k, W, X, g, ast, h => by
    unfold chk at h
    split at h
    · exact ⟨fun pins s σ H Q I ⟨w, env, s', H0, kk, er, p⟩ => pts_nil.run pins s σ H Q I (p w H (Ext.refl _ _) kk)⟩
    · cases h
  | .tyes t, k, W, X, g, ast, h => by
    unfold chk at h
    split at h
    · exact pts_one (sound t g _ h).1
    · cases h
  | .iseq a, k, W, X, g, ast, h => by
    unfold chk at h
    split at h
    · exact fun tg => ji_seq g.K (sound a g _ h)
    · cases h
  | .irng a, k, W, X, g, ast, h => by
    unfold chk at h
    split at h
    · simp only [Bool.and_eq_true, decide_eq_true_eq] at h
      obtain ⟨⟨⟨h1, rfl⟩, h3⟩, h4⟩ := h
      obtain ⟨q1, q2, q3⟩ := g.gl_of h1
      exact fun tg => ji_range q1 (g.bl _ (by decide +kernel)) (sound a g _ h4).1 (starEach_no h3)
    · cases h
  | .ret a, k, W, X, g, ast, h => by
    unfold chk at h
    split at h
    · exact js_ret (sound a g _ h)
    · cases h
  | .retN, k, W, X, g, ast, h => by
    unfold chk at h
    split at h
    · exact js_retN
    · cases h
  | .drop a, k, W, X, g, ast, h => by
    unfold chk at h
    split at h
    · simp only [Bool.and_eq_true] at h
      exact js_drop (sound a g _ h.2) (noComp_swap h.1)
    · cases h
  | .asg t a, k, W, X, g, ast, h => by
    unfold chk at h
    split at h
    · rename_i tg x pos
      simp only [Bool.and_eq_true] at h
      obtain ⟨⟨⟨h1, h2⟩, h3⟩, h4⟩ := h
      have ht := g.tg h3
      unfold CK.tg at h3
      split at h3
      · exact PS.mono (ps_asg (sound a g _ h4) ht (noComp_sole h1) (by rfl)) fun _ _ _ q => tm_asg q
      · refine PS.mono (ps_asg (sound a g _ h4) ht (noComp_sole h1) ?_) fun _ _ _ q => tm_asg q
        cases x <;> first | rfl | cases h2
      · cases h3
    · cases h
  | .ownL i a, k, W, X, g, ast, h => by
    unfold chk at h
    split at h
    · simp only [Bool.and_eq_true] at h
      obtain ⟨h1, h3⟩ := h
      obtain ⟨q1, q2, q3⟩ := g.loc_of h1
      exact PS.mono (ps_set g.nd q1 q2 (je_lstF (pe_lst (sound a g _ h3).1)) (noComp_swap rfl) q3) fun _ _ _ q => tm_own q
    · cases h
  | .ownC i it t own tt te, k, W, X, g, ast, h => by
    unfold chk at h
    split at h
    · simp only [Bool.and_eq_true, decide_eq_true_eq] at h
      obtain ⟨⟨h1, h2⟩, ⟨⟨⟨⟨⟨g1, g2⟩, g3⟩, g4⟩, g5⟩, g6⟩, g7⟩ := h
      have P : Parts G W X _ _ _ _ _ (den k.gl tb it).i t own (den k.gl tb tt).t (den k.gl tb te).e := ⟨sound it g _ g5 _, by rw [g.N, g.sc]; exact blkOk_by g2, fun s H C cl fp => (g.blk s H _ C cl fp).tg g4, fun s H C cl fp => sound tt (g.blk s H _ C cl fp) _ g6, fun s H C cl fp => sound te (g.blk s H _ C cl fp) _ g7, g3, noSet_fold g1⟩
      refine PS.mono (swap_ps g P h1 h2) fun Dn σ H q => ?_
      exact tm_compF P.hv (tm_own q)
    · cases h
  | .asgC i it t own tt te, k, W, X, g, ast, h => by
    unfold chk at h
    split at h
    · simp only [Bool.and_eq_true, decide_eq_true_eq] at h
      obtain ⟨⟨h1, h2⟩, ⟨⟨⟨⟨⟨g1, g2⟩, g3⟩, g4⟩, g5⟩, g6⟩, g7⟩ := h
      have P : Parts G W X _ _ _ _ _ (den k.gl tb it).i t own (den k.gl tb tt).t (den k.gl tb te).e := ⟨sound it g _ g5 _, by rw [g.N, g.sc]; exact blkOk_by g2, fun s H C cl fp => (g.blk s H _ C cl fp).tg g4, fun s H C cl fp => sound tt (g.blk s H _ C cl fp) _ g6, fun s H C cl fp => sound te (g.blk s H _ C cl fp) _ g7, g3, noSet_fold g1⟩
      refine PS.mono (swap_ps g P h1 h2) fun Dn σ H q => ?_
      have q' : tAsg (tM G W (mComp (den k.gl tb it).i t (own.map (·.2)) (den k.gl tb tt).t (den k.gl tb te).e)) (gT G.K (.nm i)) Dn σ H := tm_asg q
      exact tm_comp P.hv q'
    · cases h
  | .app i a, k, W, X, g, ast, h => by
    unfold chk at h
    split at h
    · simp only [Bool.and_eq_true, decide_eq_true_eq] at h
      obtain ⟨⟨⟨⟨h1, rfl⟩, h3⟩, h4⟩, h5⟩ := h
      obtain ⟨q1, q2, q3, q4⟩ := g.vis_of h1
      have hs : starEach [_] X.env = (false, eval _ X.env) :: starEach [] X.env := starEach_no h4
      refine PS.mono (ps_expr (pe_bm PySem.F.plainAttrs_list PySem.F.slot_list_append PySem.F.type_list_append mt_append (pe_var q1 q2 q3 q4) (pa_cons (sound a g _ h5) pa_nil hs) (by rfl) ?_ h3 hs (by rfl)) (noComp_swap rfl)) fun _ _ _ q => tm_app q
      rw [noStar_all fun y hy => by rw [List.mem_singleton.mp hy]; exact h4]
      rfl
    · cases h
  | .set i kk a, k, W, X, g, ast, h => by
    unfold chk at h
    split at h
    · simp only [Bool.and_eq_true] at h
      obtain ⟨⟨⟨⟨h1, h2⟩, h3⟩, h4⟩, h5⟩ := h
      obtain ⟨q1, q2, q3, q4⟩ := g.vis_of h1
      rename_i x p y p2 z p3
      have hg : PG X (.Subscript (.Name x p) y p2) (gSub (tVar i) (tM G W (den k.gl tb kk).e) rSetL) := pg_sub (pe_var q1 q2 q3 q4) (sound kk g _ h4) set_list (by intro v; cases y <;> first | rfl | cases h2)
      exact PS.mono (ps_asg (sound a g _ h5) hg (noComp_sole h3) (by rfl)) fun _ _ _ q => tm_set q
    · cases h
  | .sif t a b, k, W, X, g, ast, h => by
    unfold chk at h
    split at h
    · simp only [Bool.and_eq_true] at h
      exact js_if (sound t g _ h.1.1).1 (sound a g _ h.1.2) (sound b g _ h.2)
    · cases h
  | .sfor it t b, k, W, X, g, ast, h => by
    unfold chk at h
    split at h
    · simp only [Bool.and_eq_true] at h
      obtain ⟨⟨⟨h1, h2⟩, h3⟩, h4⟩ := h
      exact PS.mono (ps_for g.po g.calm (sound it g _ h3 _) (g.tg h2) (sound b g _ h4) (noSet_fold h1)) fun _ _ _ q => tm_for q
    · cases h
  | .pass, k, W, X, g, ast, h => by
    unfold chk at h
    split at h
    · exact js_pass
    · cases h
  | .brk, k, W, X, g, ast, h => by
    unfold chk at h
    split at h
    · exact js_break
    · cases h
  | .cont, k, W, X, g, ast, h => by
    unfold chk at h
    split at h
    · exact js_cont
    · cases h
  | .nil, k, W, X, g, ast, h => by
    unfold chk at h
    split at h
    · exact js_nil
    · cases h
  | .seq a b, k, W, X, g, ast, h => by
    unfold chk at h
    split at h
    · simp only [Bool.and_eq_true] at h
      exact js_cons (sound a g _ h.1) (sound b g _ h.2)
    · cases h
  | .frz i b, k, W, X, g, ast, h => by
    unfold chk at h
    split at h
    · exact PSs.mono (sound b g _ h) fun _ _ _ q => tm_frz q
    · cases h
end
end SR

set_option Elab.async false
set_option linter.all false
set_option maxRecDepth 100000
set_option autoImplicit false
set_option maxHeartbeats 4000000
/-! Defs. -/
namespace SR
open PySem PySem.Spec PyProof.Rows
open L2 hiding St

def finish : Res Out → Res D
  | .ok (.nx _) s => .ok .non s
  | .ok (.rt d) s => .ok d s
  | .ok (.ex x _) s => .exc x s
  | .ok (.bk _) _ => .fail
  | .ok (.ct _) _ => .fail
  | .exc _ _ => .fail
  | .ch n k => .ch n fun r => finish (k r)
  | .fail => .fail
def startE (m : Nat) (ds : List D) : Ev := ds.map (fun d => some (.v d)) ++ List.replicate (m - ds.length) none
def runF (n m : Nat) (b : MS) : Fn := fun ds s => if ds.length = n then finish (b (startE m ds) s) else .fail
theorem PostS.fin {G : Gam} {w : Wr} {H : Hp} {Q : VK} {E : XK} : ∀ {r : Res Out}, Post G w H (fun d _ w' H' => ∀ v, Rp G w' H' d v → Q v H') E (finish r) → PostS G ⟨w, H, []⟩ { nx := fun _ H' => Q .non H', rt := Q } (fun c d _ H => E c d H) r
  | .ok (.nx env) s, h => fun w' H' σ x k er => h w' H' x.ext k .non .non
  | .ok (.rt d) s, h => fun w' H' v x k r => h w' H' x.ext k v r
  | .ok (.bk env) s, h => h.elim
  | .ok (.ct env) s, h => h.elim
  | .ok (.ex x env) s, h => fun w' H' σ c dx x k er q => h c dx w' H' x.ext k q
  | .exc _ _, h => h.elim
  | .ch _ k, h => fun r hr => PostS.fin (r := k r) (h r hr)
  | .fail, h => h.elim
theorem EnvRel.start {G : Gam} {w : Wr} {H : Hp} {ds : List D} {vs : List V} {N : List Str} (r : RpL G w H ds vs) : EnvRel G H w H (startE N.length ds) (start N vs) := by
  have hl := r.length
  have key : ∀ (j : Nat) (z : Sl), (startE N.length ds)[j]? = some (some z) → ∃ d, z = .v d ∧ ds[j]? = some d := fun j z h => by
    unfold startE at h
    by_cases hj : j < ds.length
    · rw [List.getElem?_append_left (by simpa using hj), List.getElem?_map] at h
      obtain ⟨d, e, q⟩ := Option.map_eq_some_iff.mp h
      cases q
      exact ⟨d, rfl, e⟩
    · rw [List.getElem?_append_right (by simpa using hj), List.getElem?_replicate] at h
      split at h <;> cases h
  refine ⟨?_, fun j d h => ?_, fun j d h => ?_, fun a b d1 d2 p h1 _ _ _ => ?_⟩
  · unfold startE L2.start
    simp only [List.length_append, List.length_map, List.length_replicate, hl]
  · obtain ⟨d', e, q⟩ := key j _ h
    cases e
    obtain ⟨v, e1, r1⟩ := r.get q
    refine ⟨v, ?_, r1⟩
    unfold L2.start
    rw [List.getElem?_append_left (by simpa using (List.getElem?_eq_some_iff.mp e1).1), List.getElem?_map, e1]
    rfl
  · obtain ⟨d', e, _⟩ := key j _ h
    cases e
  · obtain ⟨d', e, _⟩ := key a _ h1
    cases e
section
variable {P : Program} {w : World} {K : PySem.W.Frag} {mg : Str → Option Value} {base : Heap} {G : Gam}
/-- a def of the module, known by its name -/
structure FnA (P : Program) (w : World) (K : PySem.W.Frag) (mg : Str → Option Value) (base : Heap) (G : Gam) (k : Nat) (x : Str) (n : Nat) (F : Fn) : Prop where
  ex : (∃ C fI fd ps, MkOk P w K mg base G k x C fI fd ps n F ∧ Binds K fd ps []) ∨ ∃ f fd ps, mg x = some (.ref f) ∧ PySem.W.keepIn K (.ref f) = true ∧ FnOk P w K mg base (L2.CX P w) k f fd ps (spD G n F) ∧ Binds K fd ps []
theorem FnA.df {k : Nat} {x : Str} {n : Nat} {F : Fn} (h : ∃ f fd ps, mg x = some (.ref f) ∧ PySem.W.keepIn K (.ref f) = true ∧ FnOk P w K mg base (L2.CX P w) k f fd ps (spD G n F) ∧ Binds K fd ps []) : FnA P w K mg base G k x n F := ⟨.inr h⟩
theorem FnA.mono {j k : Nat} {x : Str} {n : Nat} {F : Fn} (h : FnA P w K mg base G j x n F) (hj : j ≤ k) : FnA P w K mg base G k x n F := by
  rcases h.ex with ⟨C, fI, fd, ps, h1, h2⟩ | ⟨f, fd, ps, h1, h2, h3, h4⟩
  · exact ⟨.inl ⟨C, fI, fd, ps, h1.mono hj, h2⟩⟩
  · exact ⟨.inr ⟨f, fd, ps, h1, h2, h3.mono hj, h4⟩⟩
theorem FnA.eq {k : Nat} {x : Str} {n : Nat} {F F' : Fn} (h : FnA P w K mg base G k x n F) (e : ∀ ds s, F' ds s = F ds s) : FnA P w K mg base G k x n F' := by
  have : F' = F := by funext ds s; exact e ds s
  rw [this]
  exact h
structure FnK (P : Program) (w : World) (K : PySem.W.Frag) (mg : Str → Option Value) (base : Heap) (G : Gam) (k : Nat) (x : Str) (ks : List Str) (n : Nat) (F : Fn) : Prop where
  ex : (∃ C fI fd ps ix m F0, MkOk P w K mg base G k x C fI fd ps m F0 ∧ (∀ ws : List Value, ws.length = n → (pick ix ws).length = m) ∧ (∀ (s : Shared) (ws : List Value) (a : Addr), ws.length = n → BindsTo s fd ⟨[.ref a], ks.zip ws⟩ (ps.zip (.ref a :: pick ix ws))) ∧ F = fun ds s => F0 (pick ix ds) s) ∨
    ∃ f fd ps ix m F0, mg x = some (.ref f) ∧ PySem.W.keepIn K (.ref f) = true ∧ FnOk P w K mg base (L2.CX P w) k f fd ps (spD G m F0) ∧ (∀ ws : List Value, ws.length = n → (pick ix ws).length = m) ∧ (∀ (s : Shared) (ws : List Value), ws.length = n → BindsTo s fd ⟨[], ks.zip ws⟩ (ps.zip (pick ix ws))) ∧ F = fun ds s => F0 (pick ix ds) s
def FnE (P : Program) (w : World) (K : PySem.W.Frag) (mg : Str → Option Value) (base : Heap) (G : Gam) (k : Nat) (x : Str) (ks : List Str) (n : Nat) (F : Fn) : Prop := match ks with
  | [] => FnA P w K mg base G k x n F
  | _ :: _ => FnK P w K mg base G k x ks n F
theorem FnK.mono {j k : Nat} {x : Str} {ks : List Str} {n : Nat} {F : Fn} (h : FnK P w K mg base G j x ks n F) (hj : j ≤ k) : FnK P w K mg base G k x ks n F := by
  rcases h.ex with ⟨C, fI, fd, ps, ix, m, F0, h1, h2⟩ | ⟨f, fd, ps, ix, m, F0, h1, h2, h3, h4, h5, h6⟩
  · exact ⟨.inl ⟨C, fI, fd, ps, ix, m, F0, h1.mono hj, h2⟩⟩
  · exact ⟨.inr ⟨f, fd, ps, ix, m, F0, h1, h2, h3.mono hj, h4, h5, h6⟩⟩
theorem FnE.mono {j k : Nat} {x : Str} {ks : List Str} {n : Nat} {F : Fn} (h : FnE P w K mg base G j x ks n F) (hj : j ≤ k) : FnE P w K mg base G k x ks n F := by
  cases ks with
  | nil => exact FnA.mono h hj
  | cons _ _ => exact FnK.mono h hj
theorem gd_of {N ps : List Str} {qual : Str} {scope : Scope} {f : Addr} {cdv : Value} {A : Around} {outer : List Env} {s : Shared} {H : Hp} {E : XK} {gl : List (Str × D)} {tb : Tb} {lv : Nat} {fs : List (Str × List Str)} (S : FnScope N ps scope) (hK : K = G.K) (hr : Room lv (A.deeper (envOfC qual scope s.heap.objs.size f cdv)))
    (hbl : ∀ x ∈ bltNames, mg x = none) (hgl : ∀ (i : Nat) x d, gl[i]? = some (x, d) → ∃ u v, mg x = some u ∧ RelV v u ∧ ∀ w H, Rp G w H d v) (hfs : fs = tb.map fun e => (e.1, e.2.1)) (hfn : ∀ (i : Nat) x ks n F, tb[i]? = some (x, ks, n, F) → FnE P w K mg base G lv x ks n F) (hE : ErrOk G) :
    Gd G tb lv ⟨N, scope, fun _ => true, gl, fs⟩ (fun c d _ H => E c d H) (cxOf (L2.CX P w) P w K mg base N qual scope f cdv A outer s H E) where
  N := rfl
  sc := rfl
  fn := fun _ _ => rfl
  nd := S.nd
  calm := rfl
  K := hK
  tk := takes_of rfl rfl rfl rfl
  po := passes_of rfl
  room := hr
  bl := hbl
  gl := hgl
  fs := hfs
  fns := fun i x n F e => ⟨(hfn i x [] n F e).ex⟩
  kfns := fun i x u us n F e => ⟨(hfn i x (u :: us) n F e).ex⟩
  errs := hE
theorem fn_sound {x qual : Str} {st : Stmt} {kws : List (Str × V)} {f : Addr} {fd : FuncData} {N ps : List Str} {gl : List (Str × D)} {tb : Tb} {lv : Nat} {fs : List (Str × List Str)} (c : C) (F : FunD K x qual (defArgs st) (defBody st) (defScope st) [] kws f fd) (S : FnScope N ps (defScope st))
    (hc : chk ⟨N, defScope st, fun _ => true, gl, fs⟩ c (.b (defBody st)) = true) (hK : K = G.K)
    (hbl : ∀ x ∈ bltNames, mg x = none) (hgl : ∀ (i : Nat) x d, gl[i]? = some (x, d) → ∃ u v, mg x = some u ∧ RelV v u ∧ ∀ w H, Rp G w H d v) (hfs : fs = tb.map fun e => (e.1, e.2.1)) (hfn : ∀ (i : Nat) x ks n F, tb[i]? = some (x, ks, n, F) → FnE P w K mg base G lv x ks n F) (hE : ErrOk G) :
    FnOk P w K mg base (L2.CX P w) (lv + 1) f fd ps (spD G ps.length (runF ps.length N.length (den gl tb c).s)) := by
  refine F.ok S (fun vs H Q E h => h.1) (fun cdv A outer s H vs Q E hr h => ?_)
  obtain ⟨hl, w1, s1, ds, k1, r1, p1⟩ := h
  have g := gd_of (P := P) (w := w) (K := K) (mg := mg) (base := base) (f := f) (cdv := cdv) (A := A) (outer := outer) (s := s) (H := H) (E := E) (qual := qual) S hK hr hbl hgl hfs hfn hE
  have hj := sound c g (.b (defBody st)) hc
  refine ⟨_, hj, ⟨w1, H, []⟩, w1, startE N.length ds, s1, k1.ins, ⟨⟨Ext.refl _ _, fun _ z => nomatch z⟩, k1, EnvRel.start r1⟩, PostS.fin ?_⟩
  unfold runF at p1
  rw [if_pos (by rw [r1.length]; exact hl)] at p1
  exact p1
end
end SR

set_option Elab.async false
set_option linter.all false
set_option maxRecDepth 100000
set_option autoImplicit false
set_option maxHeartbeats 4000000
/-! The draws: what does not depend on the text. -/
namespace SR
open PySem PySem.Spec PyProof.Rows
open L2 hiding St

theorem pget_list {X : Cx} : PGet X (fun x y H Q => ∃ p xs, ∃ (j : Nat), ∃ v, x = .ref p ∧ y = .int (j : Int) ∧ SqL X.K H p xs ∧ xs[j]? = some v ∧ Q v H) := by
  intro pins s σ H x y ov iv Q I rx ry h
  obtain ⟨p, xs, j, z, rfl, rfl, hq, he, q⟩ := h
  cases rx
  obtain ⟨t, rfl⟩ := ry
  obtain ⟨its, r, pl, hz⟩ := I.list hq
  obtain ⟨w, ew, rw'⟩ := r.get he
  have hl := r.length
  have hn := line63
  have hj : j < xs.length := (List.getElem?_eq_some_iff.mp he).1
  exact wpAny_getItem_list pl.isList (by omega) (by omega) (by simpa using ew) ⟨z, H, I, rw', q⟩
/-- a draw: any number below n -/
def drawF : Fn := fun ds s => match ds with
  | [.st, .int n] => if 0 < n ∧ n < 1073741824 ∧ s.cnt < 2 ^ 40 then .ch n.toNat fun r => .ok (.int (r : Int)) { s with cnt := s.cnt + 1 } else .fail
  | _ => .fail
theorem draw_in {G : Gam} {w : Wr} {H : Hp} {s : S} {ds : List D} {vs : List V} {Q : VK} {E : XK} (r : RpL G w H ds vs) (p : Post G w H (fun d _ w' H' => ∀ v, Rp G w' H' d v → Q v H') E (drawF ds s)) :
    ∃ n : Int, ds = [.st, .int n] ∧ vs = [.ref G.dr, .int n] ∧ 0 < n ∧ n < 1073741824 ∧ s.cnt < 2 ^ 40 ∧ ∀ r : Nat, (r : Int) < n → Post G w H (fun d _ w' H' => ∀ v, Rp G w' H' d v → Q v H') E (.ok (.int (r : Int)) { s with cnt := s.cnt + 1 }) := by
  unfold drawF at p
  split at p
  · rename_i n
    split at p
    · rename_i hc
      obtain ⟨h1, h2, h3⟩ := hc
      refine ⟨n, rfl, ?_, h1, h2, h3, fun r hr => p r (by omega)⟩
      cases r with
      | cons q1 t1 =>
        cases q1
        cases t1 with
        | cons q2 t2 =>
          cases q2
          cases t2
          rfl
    · exact p.elim
  · exact p.elim
/-- the state between the steps of a draw -/
structure Dr (G : Gam) (w : Wr) (H : Hp) (cnt : Nat) (b c : Addr) (bigs cells : List Int) (H' : Hp) : Prop where
  e1 : H' G.dr = some (.lst [.ref b, .ref c, .int (cnt : Int)])
  e2 : H' b = some (.lst (bigs.map V.int))
  e3 : H' c = some (.lst (cells.map V.int))
  n1 : b ≠ G.dr
  n2 : c ≠ G.dr
  n3 : b ≠ c
  lb : bigs.length ≤ 100
  pos : ∀ x ∈ bigs, 0 ≤ x
  bw : w.mu b ∧ b ∉ w.rho ∨ H b = none
  mu : w.mu G.dr
  nr : G.dr ∉ w.rho
  kp : ∀ a o, H a = some o → (¬ w.mu a ∨ a ∈ w.rho) → H' a = some o
  dm : ∀ a, H' a = none → H a = none
theorem draw_end {G : Gam} {w : Wr} {H H' : Hp} {s : S} {Q : VK} {E : XK} {b c : Addr} {bigs cells : List Int} {r : Nat} (k : Ok G w H s) (hc : w.mu c) (hcr : c ∉ w.rho) (hc0 : cells ≠ []) (hc1 : cells.length ≤ 100) (d : Dr G w H (s.cnt + 1) b c bigs cells H')
    (p : Post G w H (fun d _ w' H' => ∀ v, Rp G w' H' d v → Q v H') E (.ok (.int (r : Int)) { s with cnt := s.cnt + 1 })) : Q (.int (r : Int)) H' := by
  let w' : Wr := { w with mu := fun a => w.mu a ∨ a = b, ph := fun a => w.ph a ∨ a = b }
  have hin : ∀ a ∈ w.rho, H a ≠ none := fun a ha => k.ins a (k.sub a (k.rmu a ha))
  have nb : b ∉ w.rho := fun z => d.bw.elim (fun q => q.2 z) fun q => hin b z q
  have kp : ∀ a o, H a = some o → ¬ w.mu a → H' a = some o := fun a o h m => d.kp a o h (.inl m)
  have x : Ext w H w' H' := ⟨⟨[], by simp [w']⟩, fun _ h => .inl h, fun a h => h.elim .inl fun e => d.bw.elim (fun q => .inl (by rw [e]; exact k.sub b q.1)) fun q => .inr (by rw [e]; exact q), fun _ h => .inl h, fun a h => h.elim .inl fun e => d.bw.elim (fun q => .inl (by rw [e]; exact q.1)) fun q => .inr (by rw [e]; exact q), kp, d.dm⟩
  have ps := x.pass k
  refine p w' H' x ⟨fun a h => h.elim (fun z => .inl (k.sub a z)) .inr, fun a h z => ?_, k.len, k.nd, fun a h => .inl (k.rmu a h), fun i a o h1 h2 => ?_, ?_⟩ _ (.int _)
  · rcases h with h | h
    · exact k.ins a h (d.dm a z)
    · rw [h, d.e2] at z; cases z
  · have ha : a ∈ w.rho := List.mem_of_getElem? h1
    refine (k.objs i a o h1 h2).pass ps fun u z => ?_
    exact d.kp a u z (.inr ha)
  · exact ⟨⟨b, c, bigs, cells, by simpa using d.e1, d.e2, d.e3, hc0, hc1, d.lb, d.pos, .inr rfl, .inl hc, d.n1, d.n2, d.n3, nb, hcr⟩, .inl k.draw.mu, k.draw.nr⟩
/-- data of ints -/
theorem dp_ints {K : PySem.W.Frag} {H : Hp} : ∀ ns : List Int, DpAll K H (ns.map V.int) (ns.map PyData.int)
  | [] => .nil
  | n :: ns => .cons (.int n) (dp_ints ns)
theorem shaped_ints (ns : List Int) : SeqAt.shaped (.list (ns.map PyData.int)) = true := by
  have h1 : ∀ ns : List Int, PyData.canLayAll0 (ns.map PyData.int) = true := by
    intro ns
    induction ns with
    | nil => rfl
    | cons n ns ih =>
      show (PyData.canLay0 (.int n) && PyData.canLayAll0 (ns.map PyData.int)) = true
      rw [ih]
      rfl
  have h2 : ∀ ns : List Int, PyData.depthAll (ns.map PyData.int) = 0 := by
    intro ns
    induction ns with
    | nil => rfl
    | cons n ns ih =>
      show max 0 (PyData.depthAll (ns.map PyData.int)) = 0
      rw [ih]
      rfl
  unfold SeqAt.shaped
  show (PyData.canLayAll0 (ns.map PyData.int) && decide (PyData.depthAll (ns.map PyData.int) + 1 ≤ 64)) = true
  rw [h1, h2]
  rfl
theorem eqv_nil : ∀ ns : List Int, (!PyData.eqv (.list (ns.map PyData.int)) (.list [])) = decide (ns ≠ [])
  | [] => by
    have : PyData.eqv (.list []) (.list []) = true := by decide +kernel
    show (!PyData.eqv (.list []) (.list [])) = _
    rw [this]
    rfl
  | n :: ns => by
    have : PyData.eqv (.list (.int n :: ns.map PyData.int)) (.list []) = false := by
      unfold PyData.eqv
      unfold PyData.eqvAll
      rfl
    show (!PyData.eqv (.list (.int n :: ns.map PyData.int)) (.list [])) = _
    rw [this]
    simp
theorem Dr.new {G : Gam} {w : Wr} {H H' : Hp} {cnt : Nat} {b c q : Addr} {bigs cells : List Int} (d : Dr G w H cnt b c bigs cells H') (n : H' q = none) (o : HO) : Dr G w H cnt b c bigs cells (upd H' q o) := by
  have kk : ∀ a u, H' a = some u → upd H' q o a = some u := fun a u h => by rw [upd_ne (ne_of_none h n)]; exact h
  refine ⟨kk _ _ d.e1, kk _ _ d.e2, kk _ _ d.e3, d.n1, d.n2, d.n3, d.lb, d.pos, d.bw, d.mu, d.nr, fun a u h h1 => kk a u (d.kp a u h h1), fun a h => ?_⟩
  by_cases e : a = q
  · rw [e, upd_same] at h; cases h
  · rw [upd_ne e] at h; exact d.dm a h
/-- state[0] = state[0][1:] -/
theorem Dr.tail {G : Gam} {w : Wr} {H H' : Hp} {cnt : Nat} {b c q : Addr} {x : Int} {bigs cells : List Int} (d : Dr G w H cnt b c (x :: bigs) cells H') (n : H' q = none) :
    Dr G w H cnt q c bigs cells (upd (upd H' q (.lst (bigs.map V.int))) G.dr (.lst [.ref q, .ref c, .int (cnt : Int)])) := by
  have nd : q ≠ G.dr := fun e => by rw [e, d.e1] at n; cases n
  have nc : q ≠ c := fun e => by rw [e, d.e3] at n; cases n
  refine ⟨upd_same, by rw [upd_ne nd, upd_same], by rw [upd_ne d.n2, upd_ne nc.symm]; exact d.e3, nd, d.n2, nc, by have := d.lb; simp at this; omega, fun y hy => d.pos y (List.mem_cons_of_mem _ hy), .inr (d.dm q n), d.mu, d.nr, fun a u h h1 => ?_, fun a h => ?_⟩
  · have na : a ≠ G.dr := fun e => h1.elim (fun z => z (e ▸ d.mu)) fun z => d.nr (e ▸ z)
    have h2 := d.kp a u h h1
    rw [upd_ne na, upd_ne (ne_of_none h2 n)]
    exact h2
  · by_cases e : a = G.dr
    · rw [e, upd_same] at h; cases h
    · rw [upd_ne e] at h
      by_cases e2 : a = q
      · rw [e2, upd_same] at h; cases h
      · rw [upd_ne e2] at h; exact d.dm a h
/-- state[0][0] = y -/
theorem Dr.head {G : Gam} {w : Wr} {H H' : Hp} {cnt : Nat} {b c : Addr} {x y : Int} {bigs cells : List Int} (d : Dr G w H cnt b c (x :: bigs) cells H') (hy : 0 ≤ y) : Dr G w H cnt b c (y :: bigs) cells (upd H' b (.lst ((y :: bigs).map V.int))) := by
  refine ⟨by rw [upd_ne d.n1.symm]; exact d.e1, upd_same, by rw [upd_ne d.n3.symm]; exact d.e3, d.n1, d.n2, d.n3, d.lb, fun z hz => ?_, d.bw, d.mu, d.nr, fun a u h h1 => ?_, fun a h => ?_⟩
  · rcases List.mem_cons.mp hz with e | e
    · rw [e]; exact hy
    · exact d.pos z (List.mem_cons_of_mem _ e)
  · have na : a ≠ b := fun e => by
      subst e
      rcases d.bw with z | z
      · exact h1.elim (fun q => q z.1) fun q => z.2 q
      · rw [z] at h; cases h
    rw [upd_ne na]
    exact d.kp a u h h1
  · by_cases e : a = b
    · rw [e, upd_same] at h; cases h
    · rw [upd_ne e] at h; exact d.dm a h
theorem while_w {c : TT} {tb : TS} {D : Ends} {σ : Sg} {H : Hp} (W : Nat → Sg → Hp → Prop) (m : Nat) (h0 : W m σ H) (hx : ∀ m σ H, W m σ H → D.nx σ H)
    (hs : (∀ m σ H, W m σ H → D.nx σ H) → ∀ m σ H, W m σ H → c σ H fun b H1 => if b = true then ∃ N : Sg → Hp → Prop, (∀ σ' H', N σ' H' → ∃ m', m' < m ∧ W m' σ' H') ∧ tb { D with nx := N, ct := N, bk := D.nx } σ H1 else D.nx σ H1) : tWhile c tb D σ H :=
  ⟨W, ⟨m, h0⟩, hs hx⟩
theorem cutD1 (xs : List V) : cutV xs (some 1) none = xs.tail := by
  unfold cutV
  rw [show HT.sIx xs.length 0 (some 1) = min 1 xs.length from HT.sIx_nat xs.length 0 1, HT.sIx_none]
  cases xs with
  | nil => rfl
  | cons x r =>
    rw [show min 1 (x :: r).length = 1 by
      rw [List.length_cons]
      omega]
    show (List.take ((x :: r).length - 1) r) = r
    rw [List.length_cons, Nat.add_sub_cancel]
    exact List.take_length
theorem ixN_zero {x : V} {xs : List V} : ixN (x :: xs).length 0 = some 0 := by
  unfold ixN
  rw [if_pos (by decide), if_pos (by rw [List.length_cons]; omega)]
  rfl
def spStart (K : PySem.W.Frag) : Sp := fun vs H Q _ => ∃ (a : Addr) (ns : List Int), vs = [.ref a] ∧ SqL K H a (ns.map V.int) ∧ ns.length ≤ 63 ∧
  ∀ H' p b c (bigs cells : List Int), Same H H' → (H' p = some (.lst [.ref b, .ref c, .int 0]) ∧ H' b = some (.lst (bigs.map V.int)) ∧ H' c = some (.lst (cells.map V.int))) → cells ≠ [] → cells.length ≤ 100 → bigs.length ≤ 100 → (∀ x ∈ bigs, 0 ≤ x) → b ≠ p → c ≠ p → b ≠ c → Q (.ref p) H'
end SR

set_option Elab.async false
set_option linter.all false
set_option maxRecDepth 100000
set_option autoImplicit false
set_option maxHeartbeats 4000000
/-! A law over its draws. -/
namespace SR
open PySem PySem.Spec PyProof.Rows
open L2 hiding St

/-- every way ends with True -/
inductive goodR : Res Out → Prop
  | rt {s : S} : goodR (.ok (.rt (.bl true)) s)
  | ch {n : Nat} {k : Nat → Res Out} : (∀ r, r < n → goodR (k r)) → goodR (.ch n k)
theorem PostS.good {G : Gam} {b : Bs} {Dn : Ends} {W : WX} (h : ∀ H, Dn.rt (.bl true) H) {r : Res Out} (g : goodR r) : PostS G b Dn W r := by
  induction g with
  | rt => exact fun w H v x k r => by cases r; exact h H
  | ch _ ih => exact fun r hr => ih r hr
@[simp] theorem goodR_rt (s : S) : goodR (.ok (.rt (.bl true)) s) = True := eq_true .rt
@[simp] theorem goodR_ch (n : Nat) (k : Nat → Res Out) : goodR (.ch n k) = ∀ r, r < n → goodR (k r) := propext ⟨fun h => by cases h; assumption, .ch⟩
def chkHead (k : CK) (st : Stmt) : Bool := match st with
  | .Assign [.Name x _] (.Call (.Name f _) [.Name y _] [] _) _ => k.loc 1 x && k.gl? f && decide (f = "_law_start") && k.vis 0 y
  | _ => false
def spLaw (K : PySem.W.Frag) : Sp := fun vs H Q _ => ∃ (a : Addr) (ns : List Int), vs = [.ref a] ∧ SqL K H a (ns.map V.int) ∧ ns.length ≤ 63 ∧ ∀ H', Q (.bl true) H'
def env0 (m : Nat) : Ev := (List.replicate m none).set 1 (some (.v .st))
/-- the law, over its code alone (a structure, so that nothing runs it by itself) -/
structure GoodL (gl : List (Str × D)) (tb : Tb) (c : C) (n : Nat) : Prop where
  h : goodR ((den gl tb c).s (env0 n) ⟨[], 0⟩)
section
variable {P : Program} {w : World} {K : PySem.W.Frag} {mg : Str → Option Value} {base : Heap} {cls : Clz}
theorem law_sound {x qual : Str} {st s0 : Stmt} {rest : List Stmt} {kws : List (Str × V)} {f fS : Addr} {fd fdS : FuncData} {N : List Str} {gl : List (Str × D)} {tb : Tb} {lv : Nat} {fs : List (Str × List Str)} {y : Str} (c : C) (F : FunD K x qual (defArgs st) (defBody st) (defScope st) [] kws f fd) (S : FnScope N [y] (defScope st))
    (hb : defBody st = s0 :: rest) (h0 : chkHead ⟨N, defScope st, fun _ => true, gl, fs⟩ s0 = true) (hc : chk ⟨N, defScope st, fun _ => true, gl, fs⟩ c (.b rest) = true) (h2 : 2 ≤ N.length)
    (hbl : ∀ x ∈ bltNames, mg x = none) (hgl : ∀ dr, ∀ (i : Nat) x d, gl[i]? = some (x, d) → ∃ u v, mg x = some u ∧ RelV v u ∧ ∀ w H, Rp ⟨K, dr, cls⟩ w H d v) (hfs : fs = tb.map fun e => (e.1, e.2.1)) (hfn : ∀ dr, ∀ (i : Nat) x ks n F, tb[i]? = some (x, ks, n, F) → FnE P w K mg base ⟨K, dr, cls⟩ lv x ks n F) (hE : ∀ dr, ErrOk ⟨K, dr, cls⟩)
    (hS : FnOk P w K mg base (L2.CX P w) lv fS fdS ["_law_script"] (spStart K)) (gS : mg "_law_start" = some (.ref fS)) (kS : PySem.W.keepIn K (.ref fS) = true) (bS : Binds K fdS ["_law_script"] [])
    (good : GoodL gl tb c N.length) : FnOk P w K mg base (L2.CX P w) (lv + 1) f fd [y] (spLaw K) := by
  refine F.ok S (fun vs H Q E h => ?_) (fun cdv A outer s H vs Q E hr h => ?_)
  · obtain ⟨a, ns, rfl, _⟩ := h
    rfl
  obtain ⟨a, ns, rfl, hA, hlen, q⟩ := h
  have g : ∀ dr, Gd ⟨K, dr, cls⟩ tb lv ⟨N, defScope st, fun _ => true, gl, fs⟩ (fun c d _ H => E c d H) (cxOf (L2.CX P w) P w K mg base N qual (defScope st) f cdv A outer s H E) := fun dr => gd_of S rfl hr hbl (hgl dr) hfs (hfn dr) (hE dr)
  rw [hb]
  unfold chkHead at h0
  split at h0
  · rename_i xs px fn pf ys py pos pos2
    simp only [Bool.and_eq_true, decide_eq_true_eq] at h0
    obtain ⟨⟨⟨a1, a2⟩, rfl⟩, a4⟩ := h0
    obtain ⟨l1, l2, l3⟩ := (g 0).loc_of a1
    obtain ⟨v1, v2, v3, v4⟩ := (g 0).vis_of a4
    obtain ⟨g1, g2, g3⟩ := (g 0).gl_of a2
    have hrest : PSs (cxOf (L2.CX P w) P w K mg base N qual (defScope st) f cdv A outer s H E) rest (fun Dn σ H' => ∃ dr, tMS ⟨K, dr, cls⟩ (fun c d _ H => E c d H) (den gl tb c).s Dn σ H') :=
      ⟨fun pins s' σ H' Dn I ⟨dr, h⟩ => (sound c (g dr) (.b rest) hc).run pins s' σ H' Dn I h⟩
    refine ⟨_, pss_cons (ps_set (i := 1) S.nd l1 l2 (pe_call hS hr g1 gS kS bS .nil passL (pa_cons (pe_var v1 v2 v3 v4) pa_nil) g2) (by rfl) l3) hrest, ?_⟩
    have hl : N.length - 1 = (N.length - 2) + 1 := by omega
    have est : start N [V.ref a] = some (.ref a) :: none :: List.replicate (N.length - 2) none := by
      unfold L2.start
      show some (V.ref a) :: List.replicate (N.length - 1) none = _
      rw [hl]
      rfl
    rw [est]
    refine ⟨.ref a, rfl, a, ns, rfl, hA, hlen, fun H' p b c bigs cells sm ⟨e1, e2, e3⟩ hc0 hc1 hb1 hp n1 n2 n3 => ?_⟩
    let w1 : Wr := ⟨[], fun z => z = p ∨ z = b ∨ z = c, fun z => z = p ∨ z = b ∨ z = c⟩
    have hin : ∀ z, w1.ph z → H' z ≠ none := fun z hz => by
      rcases hz with e | e | e
      · rw [e, e1]; exact fun z => nomatch z
      · rw [e, e2]; exact fun z => nomatch z
      · rw [e, e3]; exact fun z => nomatch z
    have k1 : Ok ⟨K, p, cls⟩ w1 H' ⟨[], 0⟩ := ⟨fun _ h => h, hin, rfl, .nil, fun _ z => (by cases z), fun i z o h => (by cases h), ⟨⟨b, c, bigs, cells, e1, e2, e3, hc0, hc1, hb1, hp, .inr (.inl rfl), .inr (.inr rfl), n1, n2, n3, (by simp [w1]), (by simp [w1])⟩, .inl rfl, (by simp [w1])⟩⟩
    refine ⟨p, ⟨w1, H', []⟩, w1, env0 N.length, ⟨[], 0⟩, hin, ⟨⟨Ext.refl _ _, fun _ z => nomatch z⟩, k1, ?_⟩, PostS.good q good.h⟩
    have ee : env0 N.length = none :: some (.v .st) :: List.replicate (N.length - 2) none := by
      unfold env0
      rw [show N.length = (N.length - 2) + 1 + 1 by omega]
      rfl
    rw [ee]
    refine ⟨by simp, fun i d hd => ?_, fun i d hd => ?_, fun i j d1 d2 p hd _ _ _ => ?_⟩
    · match i, hd with
      | 0, hd => cases hd
      | 1, hd =>
        cases hd
        exact ⟨.ref p, rfl, .st⟩
      | i + 2, hd =>
        simp only [List.getElem?_cons_succ, List.getElem?_replicate] at hd
        split at hd <;> cases hd
    · match i, hd with
      | 0, hd => cases hd
      | 1, hd => cases hd
      | i + 2, hd =>
        simp only [List.getElem?_cons_succ, List.getElem?_replicate] at hd
        split at hd <;> cases hd
    · match i, hd with
      | 0, hd => cases hd
      | 1, hd => cases hd
      | i + 2, hd =>
        simp only [List.getElem?_cons_succ, List.getElem?_replicate] at hd
        split at hd <;> cases hd
  · cases h0
theorem law_cx0 {k : Nat} {f : Addr} {fd : FuncData} {ps : List Str} (F : FnOk P w K mg base (L2.CX P w) k f fd ps (spLaw K)) : FnOk P w K mg base CX0 k f fd ps (spLaw K) := by
  refine ⟨F.len, fun A outer s H args us vs Q E hr he hb hv hs => ?_⟩
  refine codeAny_mono (F.run A outer s H args us vs Q (fun _ _ _ => False) hr he hb hv hs) fun r s' hq => ?_
  cases r with
  | error e =>
    obtain ⟨_, _, _, _, _, _, _, _, _, _, _, _, z⟩ := hq
    exact z.elim
  | ok fl => cases fl <;> exact hq
end
end SR

set_option Elab.async false
set_option linter.all false
set_option maxRecDepth 100000
set_option autoImplicit false
set_option maxHeartbeats 4000000
/-! Reckoning with denotations. -/
namespace SR
open PySem

/-- every way comes to a value with P -/
inductive allR {α : Type} (P : α → S → Prop) : Res α → Prop
  | ok {a : α} {s : S} : P a s → allR P (.ok a s)
  | ch {n : Nat} {k : Nat → Res α} : (∀ r, r < n → allR P (k r)) → allR P (.ch n k)
@[simp] theorem allR_ok {α : Type} (P : α → S → Prop) (a : α) (s : S) : allR P (.ok a s) = P a s := propext ⟨fun h => by cases h; assumption, .ok⟩
@[simp] theorem allR_ch {α : Type} (P : α → S → Prop) (n : Nat) (k : Nat → Res α) : allR P (.ch n k) = ∀ r, r < n → allR P (k r) := propext ⟨fun h => by cases h; assumption, .ch⟩
@[simp] theorem allR_fail {α : Type} (P : α → S → Prop) : allR P (.fail : Res α) = False := propext ⟨fun h => (by cases h), False.elim⟩
@[simp] theorem allR_exc {α : Type} (P : α → S → Prop) (x : XV) (s : S) : allR P (.exc x s : Res α) = False := propext ⟨fun h => (by cases h), False.elim⟩
theorem allR_imp {α : Type} {P Q : α → S → Prop} (h : ∀ a s, P a s → Q a s) {r : Res α} (g : allR P r) : allR Q r := by
  induction g with
  | ok q => exact .ok (h _ _ q)
  | ch _ ih => exact .ch ih
theorem allR_bind {α β : Type} {P : β → S → Prop} {f : α → S → Res β} {m : Res α} (g : allR (fun a s => allR P (f a s)) m) : allR P (m.bind f) := by
  induction g with
  | ok q => exact q
  | ch _ ih => exact .ch ih
theorem allR_bindN {α β : Type} {P : β → S → Prop} {f : α → S → Res β} {m : Res α} (g : allR (fun a s => allR P (f a s)) m) : allR P (m.bindN f) := by
  induction g with
  | ok q => exact q
  | ch _ ih => exact .ch ih
theorem good_bindS {α : Type} {env : Ev} {f : α → S → Res Out} {m : Res α} (g : allR (fun a s => goodR (f a s)) m) : goodR (bindS env m f) := by
  induction g with
  | ok q => exact q
  | ch _ ih => exact .ch ih
/-- what a statement may end with, ahead of a rest that is good -/
def endsIn (P : Ev → S → Prop) : Out → S → Prop
  | .nx env, s => P env s
  | .rt (.bl true), _ => True
  | _, _ => False
theorem endsIn_cases {P : Ev → S → Prop} {o : Out} {s : S} (h : endsIn P o s) : (∃ env, o = .nx env ∧ P env s) ∨ o = .rt (.bl true) := by
  unfold endsIn at h
  split at h
  · exact .inl ⟨_, rfl, h⟩
  · exact .inr rfl
  · exact h.elim
theorem good_then {n : MS} {m : Res Out} (g : allR (endsIn fun env s => goodR (n env s)) m) : goodR (thenS m n) := by
  induction g with
  | ok q =>
    rcases endsIn_cases q with ⟨env, rfl, h⟩ | rfl
    · exact h
    · exact .rt
  | ch _ ih => exact .ch ih
theorem all_bindS {α : Type} {env : Ev} {P : Out → S → Prop} {f : α → S → Res Out} {m : Res α} (g : allR (fun a s => allR P (f a s)) m) : allR P (bindS env m f) := by
  induction g with
  | ok q => exact q
  | ch _ ih => exact .ch ih
theorem all_then {P : Out → S → Prop} {n : MS} {m : Res Out} (g : allR (fun o s => allR P (thenS (.ok o s) n)) m) : allR P (thenS m n) := by
  induction g with
  | ok q => exact q
  | ch _ ih => exact .ch ih
theorem all_fin {P : D → S → Prop} {m : Res Out} (g : allR (fun o s => allR P (finish (.ok o s))) m) : allR P (finish m) := by
  induction g with
  | ok q => exact q
  | ch _ ih => exact .ch ih
theorem all_turn {P : Out → S → Prop} {n : MS} {m : Res Out} (g : allR (fun o s => ∃ env, o = .nx env ∧ allR P (n env s)) m) : allR P (goF.turnF m n) := by
  induction g with
  | ok q =>
    obtain ⟨env, rfl, h⟩ := q
    exact h
  | ch _ ih => exact .ch ih
theorem goF_cons (t : Tg) (body : MS) (d : D) (ds : List D) (env env2 : Ev) (s : S) (h : t.bind d env = some env2) : goF t body (d :: ds) env s = goF.turnF (body env2 s) (goF t body ds) := by
  show (match t.bind d env with | none => Res.fail | some env2 => goF.turnF (body env2 s) (goF t body ds)) = _
  rw [h]
@[simp] theorem thenS_nx (env : Ev) (s : S) (n : MS) : thenS (.ok (.nx env) s) n = n env s := rfl
@[simp] theorem thenS_rt (d : D) (s : S) (n : MS) : thenS (.ok (.rt d) s) n = .ok (.rt d) s := rfl
@[simp] theorem thenS_ch (m : Nat) (k : Nat → Res Out) (n : MS) : thenS (.ch m k) n = .ch m fun r => thenS (k r) n := rfl
@[simp] theorem finish_nx (env : Ev) (s : S) : finish (.ok (.nx env) s) = .ok .non s := rfl
@[simp] theorem finish_rt (d : D) (s : S) : finish (.ok (.rt d) s) = .ok d s := rfl
@[simp] theorem finish_ch (m : Nat) (k : Nat → Res Out) : finish (.ch m k) = .ch m fun r => finish (k r) := rfl
/-- a draw -/
theorem all_draw {P : D → S → Prop} {n : Int} {s : S} (h0 : 0 < n) (h1 : n < 1073741824) (hc : s.cnt < 2 ^ 40) (h : ∀ r : Nat, (r : Int) < n → P (.int (r : Int)) { s with cnt := s.cnt + 1 }) : allR P (drawF [.st, .int n] s) := by
  show allR P (if 0 < n ∧ n < 1073741824 ∧ s.cnt < 2 ^ 40 then Res.ch n.toNat fun r => Res.ok (D.int ↑r) { s with cnt := s.cnt + 1 } else Res.fail)
  rw [if_pos ⟨h0, h1, hc⟩]
  exact .ch fun r hr => .ok (h r (by omega))
/-! ### unfolding, one application at a time -/
section
variable (env : Ev) (s : S)
@[simp] theorem sNil_a : sNil env s = .ok (.nx env) s := rfl
@[simp] theorem sPass_a : sPass env s = .ok (.nx env) s := rfl
@[simp] theorem sBreak_a : sBreak env s = .ok (.bk env) s := rfl
@[simp] theorem sCont_a : sCont env s = .ok (.ct env) s := rfl
@[simp] theorem sRetN_a : sRetN env s = .ok (.rt .non) s := rfl
@[simp] theorem sSeq_a (m n : MS) : sSeq m n env s = thenS (m env s) n := rfl
@[simp] theorem sIf_a (t : MT) (a b : MS) : sIf t a b env s = bindS env (t env s) fun c s => if c then a env s else b env s := rfl
@[simp] theorem sRet_a (m : ME) : sRet m env s = bindS env (m env s) fun e s => match e with | .v d => .ok (.rt d) s | .b _ => .fail := rfl
@[simp] theorem sDrop_a (m : ME) : sDrop m env s = bindS env (m env s) fun _ s => .ok (.nx env) s := rfl
@[simp] theorem sAsg_nm (i : Nat) (m : ME) : sAsg (.nm i) m env s = bindS env (m env s) fun e s => match e with | .v d => .ok (.nx (env.set i (some (.v d)))) s | .b _ => .fail := rfl
theorem sAsg_tp (is : List Nat) (m : ME) : sAsg (.tp is) m env s = bindS env (m env s) fun e s => match e with | .v d => (match (Tg.tp is).bind d env with | some env' => .ok (.nx env') s | none => .fail) | .b _ => .fail := rfl
@[simp] theorem sOwn_a (i : Nat) (m : MF) : sOwn i m env s = bindS env (m env s) fun ds s => .ok (.nx (env.set i (some (.own (.lst ds))))) s := rfl
@[simp] theorem sFor_a (mi : MI) (t : Tg) (b : MS) : sFor mi t b env s = bindS env (mi env s) fun p s => if p.1 then goF t b p.2 env s else .fail := rfl
@[simp] theorem mC_a (d : D) : mC d env s = .ok (.v d) s := rfl
theorem mVar_a (i : Nat) : mVar i env s = match env[i]? with | some (some (.v d)) => .ok (.v d) s | some (some (.own d)) => .ok (.b d) s | _ => .fail := rfl
@[simp] theorem mVar_v {env : Ev} {s : S} {i : Nat} {d : D} (h : env[i]? = some (some (.v d))) : mVar i env s = .ok (.v d) s := by rw [mVar_a, h]
@[simp] theorem mVar_o {env : Ev} {s : S} {i : Nat} {d : D} (h : env[i]? = some (some (.own d))) : mVar i env s = .ok (.b d) s := by rw [mVar_a, h]
@[simp] theorem m2_a {α : Type} (a b : ME) (f : EV → EV → S → Res α) : m2 a b f env s = (a env s).bind fun x s => (b env s).bind fun y s => f x y s := rfl
@[simp] theorem mTest_a (m : ME) : mTest m env s = (m env s).bind fun e s => match e.get with | .bl b => .ok b s | _ => .fail := rfl
@[simp] theorem mNot_a (m : MT) : mNot m env s = (m env s).bind fun b s => .ok (!b) s := rfl
@[simp] theorem mAnd_a (m n : MT) : mAnd m n env s = (m env s).bind fun b s => if b then n env s else .ok false s := rfl
@[simp] theorem mOr_a (m n : MT) : mOr m n env s = (m env s).bind fun b s => if b then .ok true s else n env s := rfl
@[simp] theorem mIf_a (t : MT) (a b : ME) : mIf t a b env s = (t env s).bind fun c s => if c then a env s else b env s := rfl
@[simp] theorem mNotV_a (m : ME) : mNotV m env s = (m env s).bind fun e s => match e.get with | .bl b => .ok (.v (.bl (!b))) s | _ => .fail := rfl
@[simp] theorem mAndV_a (m n : ME) : mAndV m n env s = (m env s).bind fun e s => match e.get with | .bl true => n env s | .bl false => .ok (.v (.bl false)) s | _ => .fail := rfl
@[simp] theorem mOrV_a (m n : ME) : mOrV m n env s = (m env s).bind fun e s => match e.get with | .bl true => .ok (.v (.bl true)) s | .bl false => n env s | _ => .fail := rfl
@[simp] theorem aNil_a : aNil env s = .ok [] s := rfl
@[simp] theorem aCons_a (m : ME) (n : MA) : aCons m n env s = (m env s).bind fun x s => (n env s).bind fun xs s => .ok (x :: xs) s := rfl
@[simp] theorem strict_nil : strict [] = some [] := rfl
@[simp] theorem strict_v (d : D) (r : List EV) : strict (.v d :: r) = (strict r).map (d :: ·) := rfl
@[simp] theorem mLst_a (n : MA) : mLst n env s = (n env s).bind fun es s => match strict es with | some ds => if ds.length ≤ sizeLine then .ok (.v (.lst ds)) s else .fail | none => .fail := rfl
@[simp] theorem mTup_a (n : MA) : mTup n env s = (n env s).bind fun es s => match strict es with | some ds => if ds.length ≤ sizeLine then .ok (.v (.tup ds)) s else .fail | none => .fail := rfl
@[simp] theorem mB_a (f : List EV → S → Res EV) (ma : MA) : mB f ma env s = (ma env s).bind fun es s => f es s := rfl
@[simp] theorem mMs_a (f : Str → List EV → S → Res EV) (mo : ME) (ma : MA) : mMs f mo ma env s = (mo env s).bind fun o s => match o.get with | .str a => (ma env s).bind fun es s => f a es s | _ => .fail := rfl
@[simp] theorem mIsi_a (T : String) (m : ME) : mIsi T m env s = (m env s).bind fun e s => match (tyS s e.get).bind fun t => L2.kitB t T with | some b => .ok (.v (.bl b)) s | none => .fail := rfl
@[simp] theorem mRev_a (m : ME) : mRev m env s = (m env s).bind fun x s => revD x s := rfl
@[simp] theorem mSl_a (mx : ME) (ml mh : MO) : mSl mx ml mh env s = (mx env s).bind fun x s => (ml env s).bind fun l s => (mh env s).bind fun h s => slD x l h s := rfl
@[simp] theorem oNone_a : oNone env s = .ok none s := rfl
@[simp] theorem oSome_a (m : ME) : oSome m env s = (m env s).bind fun e s => match e.get with | .int i => .ok (some i) s | _ => .fail := rfl
@[simp] theorem mNeg_a (m : ME) : mNeg m env s = (m env s).bind fun x s => negD x s := rfl
@[simp] theorem mChain_a (a b c : ME) (f f' : EV → EV → S → Res EV) : mChain a b c f f' env s = (a env s).bind fun x s => (b env s).bind fun y s => (f x y s).bind fun z s => match z.get with | .bl true => (c env s).bind fun u s => f' y u s | .bl false => .ok (.v (.bl false)) s | _ => .fail := rfl
@[simp] theorem mCall_a (n : Nat) (F : Fn) (ma : MA) : mCall n F ma env s = (ma env s).bind fun es s => match strict es with | some ds => if ds.length = n then (F ds s).bind fun d s => .ok (.v d) s else .fail | none => .fail := rfl
@[simp] theorem iSeq_a (m : ME) : iSeq m env s = (m env s).bind fun e s => iterD e s := rfl
@[simp] theorem iRange_a (ma : MA) : iRange ma env s = (ma env s).bind fun es s => rangeD es s := rfl
@[simp] theorem mComp_a (mi : MI) (t : Tg) (vs : List Nat) (tt : MT) (te : ME) : mComp mi t vs tt te env s = (mi env s).bind fun p s => (goC (wipeE env vs) t tt te p.2 [] s).bind fun acc s => .ok (.v (.lst acc)) s := rfl
@[simp] theorem mCompF_a (mi : MI) (t : Tg) (vs : List Nat) (tt : MT) (te : ME) : mCompF mi t vs tt te env s = (mi env s).bind fun p s => goC (wipeE env vs) t tt te p.2 [] s := rfl
@[simp] theorem tYesM_a : tYesM env s = .ok true s := rfl
@[simp] theorem iterD_lst (ds : List D) : iterD (.v (.lst ds)) s = .ok (true, ds) s := rfl
@[simp] theorem iterD_tup (ds : List D) : iterD (.v (.tup ds)) s = .ok (true, ds) s := rfl
@[simp] theorem iterD_str (x : Str) : iterD (.v (.str x)) s = .ok (true, chars x) s := rfl
@[simp] theorem ltD_int (g : Int → Int → Bool) (i j : Int) : ltD g (.v (.int i)) (.v (.int j)) s = .ok (.v (.bl (g i j))) s := rfl
@[simp] theorem lenD_lst (ds : List D) : lenD [.v (.lst ds)] s = .ok (.v (.int ds.length)) s := rfl
@[simp] theorem lenD_blst (ds : List D) : lenD [.b (.lst ds)] s = .ok (.v (.int ds.length)) s := rfl
@[simp] theorem lenD_tup (ds : List D) : lenD [.v (.tup ds)] s = .ok (.v (.int ds.length)) s := rfl
theorem lenD_str (z : Str) (h : z.length ≤ sizeLine) : lenD [.v (.str z)] s = .ok (.v (.int z.length)) s := by
  show (if z.length ≤ sizeLine then Res.ok (EV.v (.int z.length)) s else .fail) = _
  rw [if_pos h]
end
/-! ### texts -/
theorem strIn_one (c : Nat) (z : Str) : strIn ⟨#[c]⟩ z = decide (c ∈ z.cps.toList) := (PySem.StrLaws.found_one z c)
theorem str_app (a b : Str) : (a ++ b).cps.toList = a.cps.toList ++ b.cps.toList := by
  show (a.cps ++ b.cps).toList = _
  simp
theorem str_len (a : Str) : a.cps.toList.length = a.length := by simp [Str.length]
theorem str_app_len (a b : Str) : (a ++ b).length = a.length + b.length := by
  rw [← str_len, str_app, List.length_append, str_len, str_len]
/-- lists of texts as data -/
theorem py_strs : ∀ {xs : List Str}, (∀ x ∈ xs, ∀ c ∈ x.cps.toList, c < 0x110000) → ∃ ps, toPys (xs.map D.str) = some ps ∧ PyData.canLayAll0 ps = true ∧ PyData.depthAll ps = 0 ∧ ps.length = xs.length
  | [], _ => ⟨[], rfl, rfl, rfl, rfl⟩
  | x :: xs, h => by
    obtain ⟨ps, e1, e2, e3, e4⟩ := py_strs (xs := xs) fun y hy => h y (List.mem_cons_of_mem _ hy)
    refine ⟨.str x :: ps, ?_, ?_, ?_, by simp [e4]⟩
    · rw [List.map_cons]
      unfold toPys
      rw [e1]
      rfl
    · show (PyData.canLay0 (.str x) && PyData.canLayAll0 ps) = true
      rw [e2]
      show (PyData.strOk x && true) = true
      unfold PyData.strOk
      rw [Bool.and_true, Array.all_eq_true_iff_forall_mem]
      intro c hc
      exact decide_eq_true (h x List.mem_cons_self c (by simpa using hc))
    · show max 0 (PyData.depthAll ps) = 0
      rw [e3]
      rfl
theorem py_lst_strs {xs : List Str} (h : ∀ x ∈ xs, ∀ c ∈ x.cps.toList, c < 0x110000) : ∃ ps, py? (.lst (xs.map D.str)) = some (.list ps) ∧ ps.length = xs.length := by
  obtain ⟨ps, e1, e2, e3, e4⟩ := py_strs h
  refine ⟨ps, ?_, e4⟩
  unfold py?
  unfold toPy
  rw [e1]
  show (if SeqAt.shaped (.list ps) = true then some (PyData.list ps) else none) = some (.list ps)
  rw [if_pos]
  unfold SeqAt.shaped
  show (PyData.canLayAll0 ps && decide (PyData.depthAll ps + 1 ≤ 64)) = true
  rw [e2, e3]
  rfl
theorem py_nil : py? (.lst []) = some (.list []) := rfl
theorem eqv_list_nil (ps : List PyData) : PyData.eqv (.list ps) (.list []) = decide (ps = []) := by
  unfold PyData.eqv
  cases ps with
  | nil => unfold PyData.eqvAll; rfl
  | cons p ps => unfold PyData.eqvAll; simp
theorem py_int (i : Int) : py? (.int i) = some (.int i) := rfl
theorem py_bl (b : Bool) : py? (.bl b) = some (.bool b) := rfl
theorem eq_int (i j : Int) (s : S) : eqD false (.v (.int i)) (.v (.int j)) s = .ok (.v (.bl (decide (i = j)))) s := by
  unfold eqD
  simp only [EV.get_v, py_int]
  show Res.ok (EV.v (D.bl ((PyData.eqv (.int i) (.int j)) != false))) s = _
  unfold PyData.eqv
  rw [Bool.bne_false]
  by_cases h : i = j
  · subst h; simp
  · simp [h]
theorem eq_bl (neg : Bool) (i j : Bool) (s : S) : eqD neg (.v (.bl i)) (.v (.bl j)) s = .ok (.v (.bl ((i == j) != neg))) s := by
  unfold eqD
  simp only [EV.get_v, py_bl]
  show Res.ok (EV.v (D.bl ((PyData.eqv (.bool i) (.bool j)) != neg))) s = _
  unfold PyData.eqv
  rfl
end SR

set_option Elab.async false
set_option linter.all false
set_option maxRecDepth 100000
set_option autoImplicit false
set_option maxHeartbeats 4000000
/-! The makers of the error classes. -/
namespace SR
open PySem PySem.Spec PyProof.Rows
open L2 hiding St
/-- a method call on a name, on one line -/
theorem evM {x m : Str} {px ap pos : Pos} {env : Env} {es : List Expr} (hf : methodCallForm (es.length + 0 + 0) (backTo pos (starEach es env)) (backToKw pos (keywordEach [] env)) = true) (hl : (ap.endLine == pos.line) = true) :
    eval (.Call (.Attribute (.Name x px) m ap) es [] pos) env = (do
      let ov ← eval (.Name x px) env
      standAt ap.atName
      let (f, first) ← holding [ov] (getMethod ov m (plainOf (.Name x px) env))
      callWith pos f first (backTo pos (starEach es env)) (backToKw pos (keywordEach [] env))) := by
  have h := fun ov => mcall_line (o := .Name x px) (m := m) (env := env) (ov := ov) hf hl
  show (do
      let ov ← eval (.Name x px) env
      standAt ap.atName
      methodCall (.Name x px) m ap pos env ov (es.length + 0 + 0) (backTo pos (starEach es env)) (backToKw pos (keywordEach [] env))) = _
  simp only [h]
/-- R.__init__(self, 'text') -/
def chkB (k : CK) (R : Str) (st : Stmt) : Bool := match st with
  | .Expr (.Call (.Attribute (.Name x _) m ap) [.Name y _, .Constant (.str _) _ _] [] cp) _ => k.gl? x && decide (x = R) && decide (m = "__init__") && (ap.endLine == cp.line) && k.vis 0 y
  | _ => false
/-- self.f = value -/
def chkA (k : CK) (f : Str) (st : Stmt) : Bool := match st with
  | .Assign [.Attribute (.Name z _) g _] (.Name v _) _ => k.vis 0 z && decide (g = f) && k.vis 1 v
  | _ => false
def chkI (k : CK) (R : Str) (fs : List Str) (b : List Stmt) : Bool := match fs, b with
  | [], [s1] => chkB k R s1
  | [f], [s1, s2] => chkB k R s1 && chkA k f s2
  | _, _ => false
/-- what a maker does -/
def spI (C : Addr) (fs : List Str) : Sp := fun vs H Q _ => match fs, vs with
  | [], [.ref a] => H a = some (exo a C none) ∧ Q .non H
  | [f], [.ref a, y] => H a = some (exo a C none) ∧ ∀ dx, H dx = none → dx ≠ a → Q .non (upd (upd H dx (exd dx [(f, y)])) a (exo a C (some dx)))
  | _, _ => False
section
variable {P : Program} {w : World} {K : PySem.W.Frag} {mg : Str → Option Value} {base : Heap}
theorem pss_init {X : Cx} {G : Gam} {tb : Tb} {lv : Nat} {k : CK} {W : WX} (g : Gd G tb lv k W X) {R : Str} {aR : Addr} {st : Stmt} (h : chkB k R st = true) (T : RInit X.K aR) (hm : X.mg R = some (.ref aR)) :
    ∃ x : Str, PS X st (tDrop (tVeI X.K (tCons (tVar 0) (tCons (tC (.str x)) tNil)))) := by
  unfold chkB at h
  split at h
  · rename_i x px m ap y py t pt pt2 cp p
    simp only [Bool.and_eq_true, decide_eq_true_eq] at h
    obtain ⟨⟨⟨⟨h1, rfl⟩, rfl⟩, h4⟩, h5⟩ := h
    obtain ⟨g1, g2, g3⟩ := g.gl_of h1
    obtain ⟨v1, v2, v3, v4⟩ := g.vis_of h5
    exact ⟨t, ps_expr (pe_rinit T g1 hm (pa_cons (pe_var v1 v2 v3 v4) (pa_cons pe_str pa_nil rfl) rfl) (evM rfl h4) g2 rfl rfl) rfl⟩
  · cases h
theorem pss_asg {X : Cx} {G : Gam} {tb : Tb} {lv : Nat} {k : CK} {W : WX} (g : Gd G tb lv k W X) {f : Str} {st : Stmt} (h : chkA k f st = true) : PS X st (tOst X.K f (tVar 0) (tVar 1)) := by
  unfold chkA at h
  split at h
  · simp only [Bool.and_eq_true, decide_eq_true_eq] at h
    obtain ⟨⟨h1, rfl⟩, h2⟩ := h
    obtain ⟨v1, v2, v3, v4⟩ := g.vis_of h1
    obtain ⟨u1, u2, u3, u4⟩ := g.vis_of h2
    exact ps_ost (pe_var v1 v2 v3 v4) (pe_var u1 u2 u3 u4) rfl
  · cases h
theorem init_ok {x qual R : Str} {fs : List Str} {aR C : Addr} {params : Arguments} {body : List Stmt} {scope : Scope} {kws : List (Str × V)} {f : Addr} {fd : FuncData} {N : List Str} {lv : Nat} (F : FunD K x qual params body scope [] kws f fd) (S : FnScope N N scope) (hN : N.length = fs.length + 1)
    (hc : chkI ⟨N, scope, fun _ => true, [], []⟩ R fs body = true) (hbl : ∀ x ∈ bltNames, mg x = none) (T : RInit K aR) (hm : mg R = some (.ref aR)) (O : OexC K C) (hno : ∀ f ∈ fs, PySem.W.findIn K (.ref C) f = some none) :
    FnOk P w K mg base (L2.CX P w) (lv + 1) f fd N (spI C fs) := by
  refine F.ok S (fun vs H Q E h => ?_) (fun cdv A outer s H vs Q E hr h => ?_)
  · unfold spI at h
    split at h
    · rw [hN]; rfl
    · rw [hN]; rfl
    · exact h.elim
  have g : Gd ⟨K, 0, ⟨fun _ => none, fun _ => some (.ty "ValueError")⟩⟩ [] lv ⟨N, scope, fun _ => true, [], []⟩ (fun c d _ H => E c d H) (cxOf (L2.CX P w) P w K mg base N qual scope f cdv A outer s H E) := gd_of S rfl hr hbl (fun i x d e => by cases e) rfl (fun i x ks n F e => by cases e) ⟨rfl, fun _ _ z => nomatch z⟩
  unfold spI at h
  unfold chkI at hc
  split at h
  · rename_i a
    split at hc
    · obtain ⟨t, h1⟩ := pss_init g hc T hm
      obtain ⟨ha, hq⟩ := h
      refine ⟨_, pss_one h1, ?_⟩
      obtain ⟨n, rfl⟩ : ∃ n, N = [n] := by
        match N, hN with
        | [n], _ => exact ⟨n, rfl⟩
      exact ⟨.ref a, rfl, a, C, _, rfl, (by simp), O, ha, hq⟩
    · contradiction
    · cases hc
  · rename_i f a y
    split at hc
    · contradiction
    · rename_i fs0 b0 f' s1 s2 q
      cases q
      obtain ⟨h1, h2⟩ := Bool.and_eq_true_iff.mp hc
      obtain ⟨t, h1⟩ := pss_init g h1 T hm
      obtain ⟨ha, hq⟩ := h
      refine ⟨_, pss_cons h1 (pss_one (pss_asg g h2)), ?_⟩
      obtain ⟨n, m, rfl⟩ : ∃ n m, N = [n, m] := by
        match N, hN with
        | [n, m], _ => exact ⟨n, m, rfl⟩
      refine ⟨.ref a, rfl, a, C, _, rfl, (by simp), O, ha, ?_⟩
      exact ⟨y, rfl, .ref a, rfl, a, C, rfl, O, hno f (by simp), .inl ⟨ha, hq⟩⟩
    · cases hc
  · exact h.elim
end
end SR

set_option Elab.async false
set_option linter.all false
set_option maxRecDepth 100000
set_option autoImplicit false
set_option maxHeartbeats 4000000
/-! Error classes as callees. -/
namespace SR
open PySem PySem.Spec PyProof.Rows
open L2 hiding St
def errF (c : Str) (fs : List Str) : Fn := fun ds s => if ds.length = fs.length then .ok (.err c (fs.zip ds)) s else .fail
theorem upd_two {H : Hp} {a b : Addr} {o o' u : HO} (h : b ≠ a) : upd (upd (upd H a o) b u) a o' = upd (upd H b u) a o' := by
  funext z
  by_cases e : z = a
  · rw [e, upd_same, upd_same]
  · rw [upd_ne e, upd_ne e]
    by_cases e2 : z = b
    · rw [e2, upd_same, upd_same]
    · rw [upd_ne e2, upd_ne e2, upd_ne e]
section
variable {P : Program} {w : World} {K : PySem.W.Frag} {mg : Str → Option Value} {base : Heap} {G : Gam}
theorem mk_err {k : Nat} {x c : Str} {C fI : Addr} {fd : FuncData} {ps fs : List Str} (hg : G.cls.ex c = some C) (hm : mg x = some (.ref C)) (O : OexC K C) (iC : PySem.W.findIn K (.ref C) "__init__" = some (some (.ref fI))) (tI : PySem.W.typeIn K (.ref fI) = some (.type "function"))
    (F1 : FnOk P w K mg base (L2.CX P w) k fI fd ps (spI C fs)) (h1 : fs.length ≤ 1) : MkOk P w K mg base G (k + 1) x C fI fd ps fs.length (errF c fs) := by
  refine ⟨k, spI C fs, hm, O, iC, tI, Nat.le_refl _, F1, fun vs H Q E h => ?_⟩
  obtain ⟨hl, w1, s1, ds, k1, r1, p1⟩ := h
  have hd := r1.length
  unfold errF at p1
  rw [if_pos (by rw [hd]; exact hl)] at p1
  refine ⟨by omega, fun a na => ?_⟩
  have hdl : ds.length = fs.length := by rw [hd]; exact hl
  clear hl hd
  match fs, ds, vs, hdl, h1, r1, p1 with
  | [], [], [], _, _, _, p1 =>
    exact ⟨upd_same, rfl, p1 w1 _ (Ext.new na _) (k1.new na _) _ (.err0 hg upd_same (k1.nph na))⟩
  | [f], [d], [y], _, _, .cons r _, p1 =>
    refine ⟨upd_same, fun dx nx ne => ⟨rfl, ?_⟩⟩
    rw [upd_ne ne] at nx
    rw [upd_two ne]
    have k2 := k1.new nx (exd dx [(f, y)])
    have na2 : upd H dx (exd dx [(f, y)]) a = none := by rw [upd_ne (Ne.symm ne)]; exact na
    have x2 := (Ext.new (w := w1) nx (exd dx [(f, y)])).trans (Ext.new (w := w1) na2 (exo a C (some dx)))
    refine p1 w1 _ x2 (k2.new na2 _) _ (.err (vs := [(f, y)]) hg upd_same (k2.nph na2) (by rw [upd_ne ne, upd_same]) (k1.nph nx) rfl ?_)
    exact .cons (r.pass (x2.pass k1)) .nil
end
end SR

set_option Elab.async false
set_option linter.all false
set_option maxRecDepth 100000
set_option autoImplicit false
set_option maxHeartbeats 4000000
/-! What the written part must say of the error classes, as a Bool. -/
namespace SR
open PySem PySem.Spec PyProof.Rows
open L2 hiding St
def oexB1 (K : PySem.W.Frag) (C : Addr) : Bool := match K.lookup C with
  | some ⟨.type "type", _, .cls cd, sl⟩ => (match cd.mro, sl.toList with
    | .ref D :: bm, [_, _, _, _, some (.builtin n), _] => D == C && n == "ValueError.__new__" && cd.hasDict && !cd.hasDel && PySem.HandSPX.refsVE bm
    | _, _ => false)
  | _ => false
def oexB (K : PySem.W.Frag) (C : Addr) : Bool := oexB1 K C && decide (PySem.W.findIn K (.ref C) "__setattr__" = some (some (.builtin "object.__setattr__"))) && decide (PySem.W.subIn K (.ref C) (.type "BaseException") = some true) && decide (PySem.W.typeIn K (.ref C) = some (.type "type")) && PySem.W.keepIn K (.ref C)
theorem oexB1_ok {K : PySem.W.Frag} {C : Addr} (h : oexB1 K C = true) : ∃ nm q N bs bm sn sub ab col dd k0 k1 k2 k3 k5, K.lookup C = some (excClassObj nm q C N bs bm true sn sub ab col dd k0 k1 k2 k3 k5 "ValueError.__new__") ∧ PySem.HandSPX.refsVE bm = true := by
  unfold oexB1 at h
  split at h
  · rename_i dd cd sl ho
    split at h
    · rename_i D bm k0 k1 k2 k3 n k5 hm hs
      simp only [Bool.and_eq_true, beq_iff_eq, Bool.not_eq_true'] at h
      obtain ⟨⟨⟨⟨rfl, rfl⟩, h3⟩, h4⟩, h5⟩ := h
      obtain ⟨nm, bs, mro, ns, qn, hd, sn, sub, ab, col, del⟩ := cd
      dsimp only at hm h3 h4
      subst hm h3 h4
      obtain ⟨l⟩ := sl
      dsimp only at hs
      subst hs
      exact ⟨nm, qn, ns, bs, bm, sn, sub, ab, col, dd, k0, k1, k2, k3, k5, ho, h5⟩
    · cases h
  · cases h
theorem oexB_ok {K : PySem.W.Frag} {C : Addr} (h : oexB K C = true) : OexC K C := by
  unfold oexB at h
  simp only [Bool.and_eq_true, decide_eq_true_eq] at h
  obtain ⟨⟨⟨⟨h1, h2⟩, h3⟩, h4⟩, h5⟩ := h
  exact ⟨oexB1_ok h1, h2, h3, h4, h5⟩
def rinB (K : PySem.W.Frag) (R : Addr) : Bool := decide (PySem.W.specialIn K (.ref R) "__getattribute__" = some (some (.builtin "type.__getattribute__"))) && PySem.W.readsIn K R (.type "type") && (match PySem.W.findCls K (.ref R) (.type "type") "__init__" with | some (.val (.builtin n)) => n == "ValueError.__init__" | _ => false)
theorem rinB_ok {K : PySem.W.Frag} {R : Addr} (h : rinB K R = true) : RInit K R := by
  unfold rinB at h
  obtain ⟨h12, h3⟩ := Bool.and_eq_true_iff.mp h
  obtain ⟨h1, h2⟩ := Bool.and_eq_true_iff.mp h12
  refine ⟨of_decide_eq_true h1, _, h2, ?_⟩
  split at h3
  · rename_i n e
    rw [e, beq_iff_eq.mp h3]
  · cases h3
def excB (K : PySem.W.Frag) (D : Addr) : Bool := decide (PySem.W.findIn K (.ref D) "__getattribute__" = some (some (.builtin "BaseException.__getattribute__"))) && decide (PySem.W.findIn K (.ref D) "__getattr__" = some none) && decide (PySem.W.subIn K (.ref D) (.type "BaseException") = some true) && PySem.W.hasDictIn K D &&
  decide (PySem.W.findIn K (.ref D) "__class__" = some (some (.builtin "object.__class__"))) && decide (PySem.W.specialIn K (.builtin "object.__class__") "__get__" = some (some (.builtin "getset_descriptor.__get__"))) && decide (PySem.W.takesIn K (.builtin "object.__class__") = some true) && decide (PySem.W.mroIn K D (.type "object") = some true)
theorem excB_ok {K : PySem.W.Frag} {D : Addr} (h : excB K D = true) : ExcC K D ∧ XfC K D := by
  unfold excB at h
  simp only [Bool.and_eq_true, decide_eq_true_eq] at h
  obtain ⟨⟨⟨⟨⟨⟨⟨h1, h2⟩, h3⟩, h4⟩, h5⟩, h6⟩, h7⟩, h8⟩ := h
  exact ⟨⟨h1, h2, h3, h4, h5, h6, h7, h8⟩, ⟨h1, h2, h3, h4⟩⟩
end SR

set_option Elab.async false
set_option linter.all false
set_option maxRecDepth 100000
set_option autoImplicit false
set_option maxHeartbeats 4000000
/-! The classes of a law, from the written part. -/
namespace SR
open PySem PySem.Spec PyProof.Rows
open L2 hiding St
/-! ### a hook with one Bool more -/
def asE (g : Addr → Option Obj) (n : Nat) : List Addr := cStatics :: He.asD g n
def obsE (n : Nat) (fa : List He.Fa) (fn : List He.DefD) (ex : PySem.W.Frag → Bool) (g : Addr → Option Obj) : He.AlD × Bool := (He.obsD fa fn (He.frG g (asE g n)), ex (He.frG g (asE g n)))
def hookE (n : Nat) (fa : List He.Fa) (fn : List He.DefD) (ex : PySem.W.Frag → Bool) : PySem.W.Hook where
  α := He.AlD × Bool
  obs := fun s => obsE n fa fn ex s.heap.get?
  val := fun _ => (He.valD fn, true)
  says := fun _ h => ∃ K : PySem.W.Frag, K.In h ∧ He.SaysD fa fn K ∧ ex K = true
  of := fun _ _ e => ⟨_, He.frG_in, congrArg Prod.fst e, congrArg Prod.snd e⟩
  keeps := fun _ _ _ ⟨K, hK, c⟩ k => ⟨K, PySem.W.Frag.In.keeps hK k, c⟩
theorem obsE_eq {n : Nat} {fa : List He.Fa} {fn : List He.DefD} {ex : PySem.W.Frag → Bool} {g : Addr → Option Obj} {s : Shared} (h : ∀ a, g a = s.heap.get? a) : obsE n fa fn ex g = (hookE n fa fn ex).obs s := by
  have e : g = s.heap.get? := funext h
  rw [e] <;> rfl
/-! ### error classes -/
abbrev ErrCs := List (Str × List Str)
def ecN (cs : ErrCs) (x : Str) : Bool := cs.any fun p => decide (p.1 = x)
def clzE (K : PySem.W.Frag) (cs : ErrCs) : Clz := ⟨fun x => if ecN cs x then some (He.ga K x) else none, fun x => if decide (x = "ValueError") then some (.ty "ValueError") else if decide (x = "RestError") || ecN cs x then some (.ref (He.ga K x)) else none⟩
def cvNames (cs : ErrCs) : List Str := "ValueError" :: "RestError" :: cs.map (·.1)
def cvVal (K : PySem.W.Frag) (x : Str) : Value := if decide (x = "ValueError") then .type "ValueError" else .ref (He.ga K x)
def errB1 (K : PySem.W.Frag) (cs : ErrCs) (c : Str) : Bool := oexB K (He.ga K c) && excB K (He.ga K c) && decide (PySem.W.findIn K (.ref (He.ga K c)) "__init__" = some (some (.ref (He.ma K (He.ga K c) "__init__")))) && decide (PySem.W.typeIn K (.ref (He.ma K (He.ga K c) "__init__")) = some (.type "function")) &&
  (cvNames cs).all (fun x => decide (PySem.W.kitOne K (.ref (He.ga K c)) (cvVal K x) = some (errSub x c))) && fldNames.all fun n => decide (PySem.W.findIn K (.ref (He.ga K c)) n = some none)
def errB (cs : ErrCs) (K : PySem.W.Frag) : Bool := rinB K (He.ga K "RestError") && cs.all fun p => errB1 K cs p.1
structure EC (K : PySem.W.Frag) (c : Str) : Prop where
  o : OexC K (He.ga K c)
  i : PySem.W.findIn K (.ref (He.ga K c)) "__init__" = some (some (.ref (He.ma K (He.ga K c) "__init__")))
  t : PySem.W.typeIn K (.ref (He.ma K (He.ga K c) "__init__")) = some (.type "function")
  f : ∀ n ∈ fldNames, PySem.W.findIn K (.ref (He.ga K c)) n = some none
theorem errB_mem {cs : ErrCs} {K : PySem.W.Frag} (h : errB cs K = true) {c : Str} (hc : ecN cs c = true) : errB1 K cs c = true := by
  obtain ⟨_, h2⟩ := Bool.and_eq_true_iff.mp h
  obtain ⟨p, hp, e⟩ := List.any_eq_true.mp hc
  have := List.all_eq_true.mp h2 p hp
  rw [of_decide_eq_true e] at this
  exact this
theorem ec_of {cs : ErrCs} {K : PySem.W.Frag} (h : errB cs K = true) {c : Str} (hc : ecN cs c = true) : EC K c := by
  have := errB_mem h hc
  unfold errB1 at this
  simp only [Bool.and_eq_true, decide_eq_true_eq, List.all_eq_true] at this
  obtain ⟨⟨⟨⟨⟨h1, h2⟩, h3⟩, h4⟩, h5⟩, h6⟩ := this
  exact ⟨oexB_ok h1, h3, h4, h6⟩
theorem errOk_of {cs : ErrCs} {K : PySem.W.Frag} (h : errB cs K = true) (dr : Addr) : ErrOk ⟨K, dr, clzE K cs⟩ := by
  refine ⟨rfl, fun c C hC => ?_⟩
  have hC : (if ecN cs c then some (He.ga K c) else none) = some C := hC
  split at hC
  · rename_i hc
    cases hC
    have := errB_mem h hc
    unfold errB1 at this
    simp only [Bool.and_eq_true, decide_eq_true_eq, List.all_eq_true] at this
    obtain ⟨⟨⟨⟨⟨h1, h2⟩, h3⟩, h4⟩, h5⟩, h6⟩ := this
    obtain ⟨x1, x2⟩ := excB_ok h2
    refine ⟨x1, x2, fun x v hv => ?_, h6⟩
    have hv : (if decide (x = "ValueError") then some (.ty "ValueError") else if decide (x = "RestError") || ecN cs x then some (.ref (He.ga K x)) else none) = some v := hv
    by_cases e : x = "ValueError"
    · rw [if_pos (decide_eq_true e)] at hv
      cases hv
      refine ⟨_, .ty _, ?_⟩
      have := h5 x (by rw [e]; exact List.mem_cons_self)
      unfold cvVal at this
      rw [if_pos (decide_eq_true e)] at this
      exact this
    · rw [if_neg (by simpa using e)] at hv
      split at hv
      · rename_i hx
        cases hv
        refine ⟨_, .own _, ?_⟩
        have hm : x ∈ cvNames cs := by
          rcases Bool.or_eq_true_iff.mp hx with q | q
          · rw [of_decide_eq_true q]; exact List.mem_cons_of_mem _ List.mem_cons_self
          · obtain ⟨p, hp, e⟩ := List.any_eq_true.mp q
            exact List.mem_cons_of_mem _ (List.mem_cons_of_mem _ (List.mem_map.mpr ⟨p, hp, of_decide_eq_true e⟩))
        have := h5 x hm
        unfold cvVal at this
        rw [if_neg (by simpa using e)] at this
        exact this
      · cases hv
  · cases hC
theorem rin_of {cs : ErrCs} {K : PySem.W.Frag} (h : errB cs K = true) : RInit K (He.ga K "RestError") := rinB_ok (Bool.and_eq_true_iff.mp h).1
/-! ### an error class as a callee -/
section
variable {P : Program} {w : World} {K : PySem.W.Frag} {mg : Str → Option Value} {base : Heap}
theorem errA {cs : ErrCs} {dr : Addr} {c : Str} {fs N : List Str} {qual : Str} {params : Arguments} {body : List Stmt} {scope : Scope} {fd : FuncData} (h : errB cs K = true) (hc : ecN cs c = true) (hm : mg c = some (.ref (He.ga K c))) (hR : mg "RestError" = some (.ref (He.ga K "RestError"))) (hbl : ∀ x ∈ bltNames, mg x = none)
    (F : FunD K "__init__" qual params body scope [] [] (He.ma K (He.ga K c) "__init__") fd) (S : FnScope N N scope) (hN : N.length = fs.length + 1) (hck : chkI ⟨N, scope, fun _ => true, [], []⟩ "RestError" fs body = true) (hf : ∀ f ∈ fs, f ∈ fldNames) (h1 : fs.length ≤ 1) :
    MkOk P w K mg base ⟨K, dr, clzE K cs⟩ 2 c (He.ga K c) (He.ma K (He.ga K c) "__init__") fd N fs.length (errF c fs) := by
  have E := ec_of h hc
  have F1 : FnOk P w K mg base (L2.CX P w) (0 + 1) (He.ma K (He.ga K c) "__init__") fd N (spI (He.ga K c) fs) := init_ok F S hN hck hbl (rin_of h) hR E.o fun f hf' => E.f f (hf f hf')
  exact mk_err (by show (if ecN cs c then some (He.ga K c) else none) = _; rw [if_pos hc]) hm E.o E.i E.t F1 h1
end
end SR

set_option Elab.async false
set_option linter.all false
set_option maxRecDepth 100000
set_option autoImplicit false
set_option maxHeartbeats 4000000
namespace SR
open PySem PySem.Spec PyProof.Rows
open L2 hiding St
def topS (i : Nat) : Stmt := PySem.Challenge.pw_surerests_k02_errors.main.body.getD i (.Pass ⟨0, 0, 0, 0⟩)
def clsS (i j : Nat) : Stmt := match topS i with
  | .ClassDef _ _ _ b _ _ _ _ _ _ _ => b.getD j (.Pass ⟨0, 0, 0, 0⟩)
  | _ => .Pass ⟨0, 0, 0, 0⟩
abbrev sStart : Stmt := topS 23
abbrev sDraw : Stmt := topS 24
/-! ### the draws of this text -/
theorem scStart : FnScope ["_law_script", "_law_cell"] ["_law_script"] (defScope sStart) := ⟨rfl, rfl, rfl, by decide +kernel, rfl, by decide +kernel, by decide +kernel⟩
theorem scDraw : FnScope ["_law_state", "_law_size", "_law_digit", "_law_cell", "_law_one"] ["_law_state", "_law_size"] (defScope sDraw) := ⟨rfl, rfl, rfl, by decide +kernel, rfl, by decide +kernel, by decide +kernel⟩
section
variable {P : Program} {w : World} {K : PySem.W.Frag} {mg : Str → Option Value} {base : Heap}
abbrev pix : ∀ {b : Expr}, (∀ o i, subscripted b false o i = operate [o, i] (getItem o i)) → PlainIx b := fun h => h
set_option maxHeartbeats 16000000 in
theorem ok_draw {G : Gam} {kws : List (Str × V)} {f : Addr} {fd : FuncData} {k : Nat} (hK : K = G.K) (F : FunD K "_law_draw" "_law_draw" (defArgs sDraw) (defBody sDraw) (defScope sDraw) [] kws f fd) (ml : mg "len" = none) (mi : mg "int" = none) :
    FnOk P w K mg base (L2.CX P w) (k + 1) f fd ["_law_state", "_law_size"] (spD G 2 drawF) := by
  refine F.ok scDraw (fun vs H Q E h => h.1) (fun cdv A outer s0 H vs Q E hr h => ?_)
  obtain ⟨hl, w1, s, ds, k1, r1, p1⟩ := h
  obtain ⟨n, rfl, rfl, n0, n1, hcnt, pr⟩ := draw_in r1 p1
  obtain ⟨⟨b0, c, bigs0, cells, f1, f2, f3, f4, f5, f6, f7, f8, f9, f10, f11, f12, f13, f14⟩, hmu, hnr⟩ := k1.draw
  subst hK
  have hu := hr.units
  refine ⟨_, pss_cons (ps_augS (pv 0) pe_int pget_list pe_int ip_add set_list)
    (pss_cons (ps_while (passes_of rfl) (PW.pt (pw_and (pt_cmpR (op_neD hu) (pe_ix ix_list (pv 0) pe_int (fun _ _ => rfl)) (pe_lst pa_nil) (nomark _))
        (pw_and1 (pt_cmpR op_eq (pe_ix ix_list (pe_ix ix_list (pv 0) pe_int (fun _ _ => rfl)) pe_int (fun _ _ => rfl)) pe_int (nomark _)))))
      (pss_one (ps_asg (pe_slice sl_list (pe_ix ix_list (pv 0) pe_int (fun _ _ => rfl)) (po_some pe_int) po_none) (pg_sub (pv 0) pe_int set_list))))
    (pss_cons (ps_if (pt_cmpR (op_neD hu) (pe_ix ix_list (pv 0) pe_int (fun _ _ => rfl)) (pe_lst pa_nil) (nomark _))
        (pss_cons (ps_set (i := 2) scDraw.nd rfl (.inl rfl) (pe_op op_mod (pe_callTy call_int1 (by rfl) mi boot_int (pa_cons (pe_ix ix_list (pe_ix ix_list (pv 0) pe_int (fun _ _ => rfl)) pe_int (fun _ _ => rfl)) pa_nil)) (pv 1)))
        (pss_cons (ps_asg (pe_op op_fdiv (pe_ix ix_list (pe_ix ix_list (pv 0) pe_int (fun _ _ => rfl)) pe_int (fun _ _ => rfl)) (pv 1)) (pg_sub (pe_ix ix_list (pv 0) pe_int (fun _ _ => rfl)) pe_int set_list))
        (pss_one (ps_ret (pv 2))))) pss_nil)
    (pss_cons (ps_set (i := 3) scDraw.nd rfl (.inl rfl) (pe_op op_mod (pe_callTy call_int1 (by rfl) mi boot_int (pa_cons (pe_ix ix_list (pe_ix ix_list (pv 0) pe_int (fun _ _ => rfl))
        (pe_op op_mod (pe_callTy call_int1 (by rfl) mi boot_int (pa_cons (pe_ix ix_list (pv 0) pe_int (fun _ _ => rfl)) pa_nil)) (pe_callB call_len_seq (by rfl) ml PySem.boot_len (pa_cons (pe_ix ix_list (pv 0) pe_int (fun _ _ => rfl)) pa_nil))) (fun _ _ => rfl)) pa_nil)) pe_int))
    (pss_cons (ps_set (i := 4) scDraw.nd rfl (.inl rfl) (pe_op op_mod (pe_callTy call_int1 (by rfl) mi boot_int (pa_cons (pe_op op_pow (pe_op op_add (pe_op op_add (pe_op op_mul (pv 3) pe_int) (pe_op op_mul (pe_ix ix_list (pv 0) pe_int (fun _ _ => rfl)) pe_int)) pe_int) pe_int) pa_nil)) pe_int))
    (pss_one (ps_ret (pe_op op_mod (pe_op op_mod (pe_callTy call_int1 (by rfl) mi boot_int (pa_cons (pe_op op_pow (pe_op op_add (pe_op op_add (pe_op op_mul (pv 4) pe_int) (pe_op op_mul (pe_ix ix_list (pv 0) pe_int (fun _ _ => rfl)) pe_int)) pe_int) pe_int) pa_nil)) pe_int) (pv 1)))))))), ?_⟩
  -- state[2] += 1
  refine ⟨.ref G.dr, rfl, G.dr, _, 2, .int (s.cnt : Int), rfl, rfl, SqL.of f1, rfl, (s.cnt : Int), 1, rfl, rfl, G.dr, _, 2, 2, rfl, rfl, f1, rfl, ?_⟩
  have d0 : Dr G w1 H (s.cnt + 1) b0 c bigs0 cells (upd H G.dr (.lst ([V.ref b0, V.ref c, V.int (s.cnt : Int)].set 2 (V.int ((s.cnt : Int) + 1))))) := by
    refine ⟨?_, by rw [upd_ne f10]; exact f2, by rw [upd_ne f11]; exact f3, f10, f11, f12, f6, f7, .inl ⟨f8, f13⟩, hmu, hnr, fun a o h h1 => by rw [upd_ne (fun (e : a = G.dr) => h1.elim (fun z => z (e ▸ hmu)) fun z => hnr (e ▸ z))]; exact h, fun a h => ?_⟩
    · rw [upd_same]
      show some (HO.lst [V.ref b0, V.ref c, V.int ((s.cnt : Int) + 1)]) = _
      rw [show ((s.cnt + 1 : Nat) : Int) = (s.cnt : Int) + 1 by omega]
    · by_cases e : a = G.dr
      · rw [e, upd_same] at h; cases h
      · rw [upd_ne e] at h; exact h
  -- the while
  refine while_w (fun m σ H' => σ = [some (.ref G.dr), some (.int n), none, none, none] ∧ ∃ b bigs, Dr G w1 H (s.cnt + 1) b c bigs cells H' ∧ bigs.length = m) bigs0.length ⟨rfl, b0, bigs0, d0, rfl⟩ (fun m σ H' ⟨e, b, bigs, d, em⟩ => ?_) (fun hx m σ H' ⟨e, b, bigs, d, em⟩ => ?_)
  · -- behind the while
    subst e
    refine ⟨.ref G.dr, rfl, G.dr, _, 0, .ref b, rfl, rfl, SqL.of d.e1, rfl, Nat.zero_le _, fun q nq => ?_⟩
    have d1 := d.new nq (.lst [])
    refine ⟨.list (bigs.map PyData.int), .list [], .lst (SqL.of d1.e2) (dp_ints _), .lst (SqL.of upd_same) .nil, shaped_ints _, shaped_ints [], _, rfl, ?_⟩
    rw [eqv_nil]
    refine ite2 (fun hb => ?_) (fun hb => ?_)
    · -- a great number is left
      cases bigs with
      | nil => exact absurd rfl (of_decide_eq_true hb)
      | cons x bigs =>
        refine ⟨.ref G.dr, rfl, G.dr, _, 0, .ref b, rfl, rfl, SqL.of d1.e1, rfl, b, _, 0, .int x, rfl, rfl, SqL.of d1.e2, atI_nat (j := 0) rfl, .inl ⟨x, rfl, .int n, rfl, x, n, rfl, rfl, n0, ?_⟩⟩
        refine ⟨.ref G.dr, rfl, G.dr, _, 0, .ref b, rfl, rfl, SqL.of d1.e1, rfl, b, _, 0, .int x, rfl, rfl, SqL.of d1.e2, atI_nat (j := 0) rfl, .int n, rfl, x, n, rfl, rfl, ⟨n0, n1⟩, ?_⟩
        refine ⟨.ref G.dr, rfl, G.dr, _, 0, .ref b, rfl, rfl, SqL.of d1.e1, rfl, b, _, 0, 0, rfl, rfl, d1.e2, ixN_zero, ?_⟩
        have d2 := d1.head (y := x / n) (Int.ediv_nonneg (d.pos x List.mem_cons_self) (by omega))
        refine ⟨.int (x % n), rfl, ?_⟩
        have h0 := Int.emod_nonneg x (show n ≠ 0 by omega)
        have h1 := Int.emod_lt_of_pos x n0
        have e3 : x % n = (((x % n).toNat : Nat) : Int) := by omega
        rw [e3]
        exact draw_end k1 f9 f14 f4 f5 d2 (pr (x % n).toNat (by omega))
    · -- the small numbers
      have len0 : 0 < cells.length := List.length_pos_iff.mpr f4
      have ix0 : 0 ≤ ((s.cnt + 1 : Nat) : Int) % (cells.length : Int) := Int.emod_nonneg _ (by omega)
      have ix1 : ((s.cnt + 1 : Nat) : Int) % (cells.length : Int) < (cells.length : Int) := Int.emod_lt_of_pos _ (by omega)
      obtain ⟨j, ej⟩ : ∃ j : Nat, ((s.cnt + 1 : Nat) : Int) % (cells.length : Int) = (j : Int) := ⟨_, (Int.toNat_of_nonneg ix0).symm⟩
      have hj : j < cells.length := by omega
      have hat : atI (cells.map V.int) (((s.cnt + 1 : Nat) : Int) % ((cells.map V.int).length : Int)) = some (.int cells[j]) := by
        rw [List.length_map, ej]
        exact atI_nat (by rw [List.getElem?_map, List.getElem?_eq_getElem hj]; rfl)
      have hlen0 : (0 : Int) < ((cells.map V.int).length : Int) := by rw [List.length_map]; omega
      refine ⟨.ref G.dr, rfl, G.dr, _, 1, .ref c, rfl, rfl, SqL.of d1.e1, rfl, .ref G.dr, rfl, G.dr, _, 2, .int ((s.cnt + 1 : Nat) : Int), rfl, rfl, SqL.of d1.e1, rfl, .inl ⟨_, rfl, .ref G.dr, rfl, G.dr, _, 1, .ref c, rfl, rfl, SqL.of d1.e1, rfl, c, _, rfl, .inl (SqL.of d1.e3), _, _, rfl, rfl, hlen0, c, _, _, _, rfl, rfl, SqL.of d1.e3, hat, .inl ⟨cells[j], rfl, _, _, rfl, rfl, (show (0 : Int) < 2147483647 by decide), ?_⟩⟩⟩
      have c0 := Int.emod_nonneg cells[j] (show (2147483647 : Int) ≠ 0 by decide)
      have c1 := Int.emod_lt_of_pos cells[j] (show (0 : Int) < 2147483647 by decide)
      refine ⟨_, rfl, cells[j] % 2147483647, 48271, rfl, rfl, .inr ⟨by decide, by decide⟩, .ref G.dr, rfl, G.dr, _, 2, .int ((s.cnt + 1 : Nat) : Int), rfl, rfl, SqL.of d1.e1, rfl, ((s.cnt + 1 : Nat) : Int), 69621, rfl, rfl, .inr ⟨by decide, by decide⟩, _, _, rfl, rfl, _, _, rfl, rfl, _, 5, rfl, rfl, ⟨by decide, by decide, by omega⟩, .inl ⟨_, rfl, _, 2147483647, rfl, rfl, (show (0 : Int) < 2147483647 by decide), ?_⟩⟩
      have o0 := Int.emod_nonneg ((cells[j] % 2147483647 * 48271 + ((s.cnt + 1 : Nat) : Int) * 69621 + 7) ^ (5 : Int).toNat) (show (2147483647 : Int) ≠ 0 by decide)
      have o1 := Int.emod_lt_of_pos ((cells[j] % 2147483647 * 48271 + ((s.cnt + 1 : Nat) : Int) * 69621 + 7) ^ (5 : Int).toNat) (show (0 : Int) < 2147483647 by decide)
      dsimp only
      obtain ⟨one, eone⟩ : ∃ one, (cells[j] % 2147483647 * 48271 + ((s.cnt + 1 : Nat) : Int) * 69621 + 7) ^ (5 : Int).toNat % 2147483647 = one := ⟨_, rfl⟩
      rw [eone] at o0 o1 ⊢
      refine ⟨_, rfl, one, 16807, rfl, rfl, .inr ⟨by decide, by decide⟩, .ref G.dr, rfl, G.dr, _, 2, .int ((s.cnt + 1 : Nat) : Int), rfl, rfl, SqL.of d1.e1, rfl, ((s.cnt + 1 : Nat) : Int), 40692, rfl, rfl, .inr ⟨by decide, by decide⟩, _, _, rfl, rfl, _, _, rfl, rfl, _, 5, rfl, rfl, ⟨by decide, by decide, by omega⟩, .inl ⟨_, rfl, _, 2147483629, rfl, rfl, (show (0 : Int) < 2147483629 by decide), .int n, rfl, _, n, rfl, rfl, n0, ?_⟩⟩
      dsimp only
      obtain ⟨two, etwo⟩ : ∃ two, (one * 16807 + ((s.cnt + 1 : Nat) : Int) * 40692 + 13) ^ (5 : Int).toNat % 2147483629 = two := ⟨_, rfl⟩
      rw [etwo]
      have h0 := Int.emod_nonneg two (show n ≠ 0 by omega)
      have h1 := Int.emod_lt_of_pos two n0
      have e3 : two % n = (((two % n).toNat : Nat) : Int) := by omega
      rw [e3]
      exact draw_end k1 f9 f14 f4 f5 d1 (pr (two % n).toNat (by omega))
  · -- the while's test and turn
    subst e
    refine ⟨.ref G.dr, rfl, G.dr, _, 0, .ref b, rfl, rfl, SqL.of d.e1, rfl, Nat.zero_le _, fun q nq => ?_⟩
    have d1 := d.new nq (.lst [])
    refine ⟨.list (bigs.map PyData.int), .list [], .lst (SqL.of d1.e2) (dp_ints _), .lst (SqL.of upd_same) .nil, shaped_ints _, shaped_ints [], _, rfl, ?_⟩
    rw [eqv_nil]
    refine ite2 (fun hb => ?_) (fun hb => iteF (hx m _ _ ⟨rfl, b, bigs, d1, em⟩))
    cases bigs with
    | nil => exact absurd rfl (of_decide_eq_true hb)
    | cons x bigs =>
      refine ⟨.ref G.dr, rfl, G.dr, _, 0, .ref b, rfl, rfl, SqL.of d1.e1, rfl, b, _, 0, .int x, rfl, rfl, SqL.of d1.e2, atI_nat (j := 0) rfl, rfl, _, rfl, ite2 (fun hz => ?_) (fun hz => hx m _ _ ⟨rfl, b, x :: bigs, d1, em⟩)⟩
      refine ⟨fun σ' H'' => σ' = [some (.ref G.dr), some (.int n), none, none, none] ∧ ∃ b' , Dr G w1 H (s.cnt + 1) b' c bigs cells H'', fun σ' H'' ⟨e, b', d'⟩ => ⟨bigs.length, by rw [← em]; exact Nat.lt_succ_self _, e, b', bigs, d', rfl⟩, ?_⟩
      refine ⟨.ref G.dr, rfl, G.dr, _, 0, .ref b, rfl, rfl, SqL.of d1.e1, rfl, 1, rfl, b, _, rfl, SqL.of d1.e2, fun q2 nq2 => ?_⟩
      have nd : G.dr ≠ q2 := ne_of_none d1.e1 nq2
      have ec : cutV ((x :: bigs).map V.int) (some 1) none = bigs.map V.int := by
        have := cutD1 ((x :: bigs).map V.int)
        exact this
      rw [ec]
      have d2 := d1.tail nq2
      exact ⟨.ref G.dr, rfl, G.dr, [V.ref b, V.ref c, V.int ((s.cnt + 1 : Nat) : Int)], 0, 0, rfl, rfl, by rw [upd_ne nd]; exact d1.e1, rfl, rfl, q2, d2⟩
/-- the start: a new state over the script -/
theorem ok_start {kws : List (Str × V)} {f : Addr} {fd : FuncData} {k : Nat} (F : FunD K "_law_start" "_law_start" (defArgs sStart) (defBody sStart) (defScope sStart) [] kws f fd) (ma : mg "abs" = none) (ml : mg "list" = none) :
    FnOk P w K mg base (L2.CX P w) (k + 1) f fd ["_law_script"] (spStart K) := by
  refine F.ok scStart (fun vs H Q E h => ?_) (fun cdv A outer s0 H vs Q E hr h => ?_)
  · obtain ⟨a, ns, rfl, _⟩ := h
    rfl
  obtain ⟨a, ns, rfl, hS, hlen, q⟩ := h
  refine ⟨_, pss_one (ps_ret (pe_lst (pa_cons (pe_lc (own := [("_law_cell", 1)]) (g := gName 1) (tt := tTest (tOp (rI0 fun i j => .bl (decide (j ≤ i))) (tCB (fun xs H Q => ∃ i, xs = [.int i] ∧ Q (.int (if i < 0 then -i else i)) H) (tCons (tVar 1) tNil)) (tOp (rI CPow fun i j => .int (i ^ j.toNat)) (tC (.int 10)) (tC (.int 18))))) (te := tCB (fun xs H Q => ∃ i, xs = [.int i] ∧ Q (.int (if i < 0 then -i else i)) H) (tCons (tVar 1) tNil))
      rfl scStart.nd (pi_list (pv 0)) (blkOk_by (N := ["_law_script", "_law_cell"]) (sc := defScope sStart) (by decide +kernel)) (fun _ _ _ _ _ => pg_name (i := 1) scStart.nd rfl (.inl rfl))
      (fun _ _ _ _ _ => pts_one (pt_cmpR op_ge (pe_callB call_abs (by rfl) ma boot_abs (pa_cons (pv 1) pa_nil)) (pe_op op_pow pe_int pe_int) (nomark _)))
      (fun _ _ _ _ _ => pe_callB call_abs (by rfl) ma boot_abs (pa_cons (pv 1) pa_nil)))
    (pa_cons (pe_op op_cat (pe_callTy call_list_of (by rfl) ml boot_list (pa_cons (pv 0) pa_nil)) (pe_lst (pa_cons pe_int pa_nil))) (pa_cons pe_int pa_nil))))), ?_⟩
  refine ⟨.ref a, rfl, a, rfl, ⟨_, hS⟩, fun B nB => ?_⟩
  refine lc_list (K := K) (a := a) (xs := ns.map V.int) (fun i H' => Same H H' ∧ ∃ bigs : List Int, H' B = some (.lst (bigs.map V.int)) ∧ bigs.length ≤ i ∧ ∀ x ∈ bigs, 0 ≤ x) ⟨fun b o e => by rw [upd_ne (ne_of_none e nB)]; exact e, [], upd_same, Nat.zero_le _, fun _ z => nomatch z⟩ (fun i H' _ ⟨sm, _⟩ => sm.seq hS) (fun i x H' hx ⟨sm, bigs, hB, hl, hp⟩ => ?_) (fun H' ⟨sm, bigs, hB, hl, hp⟩ => ?_)
  · rw [List.getElem?_map] at hx
    obtain ⟨y, ey, rfl⟩ := Option.map_eq_some_iff.mp hx
    refine ⟨rfl, _, rfl, y, rfl, 10, 18, rfl, rfl, ⟨by decide, by decide, by decide⟩, _, _, rfl, rfl, _, rfl, ite2 (fun hc => ?_) (fun hc => ?_)⟩
    · refine ⟨_, rfl, y, rfl, bigs.map V.int, hB, ?_, fun b o e => ?_, bigs ++ [if y < 0 then -y else y], ?_, ?_, ?_⟩
      · rw [List.length_map]
        have hi : i < ns.length := (List.getElem?_eq_some_iff.mp ey).1
        exact Nat.lt_of_le_of_lt (show bigs.length ≤ 63 by omega) (by decide)
      · rw [upd_ne (fun (z : b = B) => by rw [z, nB] at e; cases e)]
        exact sm b o e
      · rw [upd_same, List.map_append]
        rfl
      · rw [List.length_append]
        show bigs.length + 1 ≤ i + 1
        omega
      · intro z hz
        rcases List.mem_append.mp hz with hz | hz
        · exact hp z hz
        · rw [List.mem_singleton.mp hz]
          split <;> omega
    · exact ⟨sm, bigs, hB, by omega, hp⟩
  · rw [List.length_map] at hl
    have sA : SqL K H' a (ns.map V.int) := sm.seq hS
    refine ⟨.ref a, rfl, a, _, rfl, .inl sA, fun c1 n1 => ?_⟩
    refine ⟨by decide, fun c2 n2 => ?_⟩
    have e12 : c1 ≠ c2 := fun e => by rw [← e, upd_same] at n2; cases n2
    refine ⟨c1, c2, ns.map V.int, [.int 5], rfl, rfl, by rw [upd_ne e12]; exact upd_same, upd_same, ?_, fun C nC => ?_⟩
    · rw [List.length_map]
      exact Nat.le_trans (show ns.length + 1 ≤ 64 by omega) (by decide)
    refine ⟨by show 3 ≤ sizeLine; decide, fun S nS => ?_⟩
    have keep : ∀ b o, H' b = some o → upd (upd (upd (upd H' c1 (.lst (ns.map V.int))) c2 (.lst [.int 5])) C (.lst (ns.map V.int ++ [.int 5]))) S (.lst [.ref B, .ref C, .int 0]) b = some o := fun b o e => by
      have k1 : upd H' c1 (.lst (ns.map V.int)) b = some o := by rw [upd_ne (ne_of_none e n1)]; exact e
      have k2 : upd (upd H' c1 (.lst (ns.map V.int))) c2 (.lst [.int 5]) b = some o := by rw [upd_ne (ne_of_none k1 n2)]; exact k1
      have k3 : upd (upd (upd H' c1 (.lst (ns.map V.int))) c2 (.lst [.int 5])) C (.lst (ns.map V.int ++ [.int 5])) b = some o := by rw [upd_ne (ne_of_none k2 nC)]; exact k2
      rw [upd_ne (ne_of_none k3 nS)]
      exact k3
    have nCS : C ≠ S := fun e => by rw [← e, upd_same] at nS; cases nS
    have b1 : upd H' c1 (.lst (ns.map V.int)) B = some (.lst (bigs.map V.int)) := by rw [upd_ne (ne_of_none hB n1)]; exact hB
    have b2 : upd (upd H' c1 (.lst (ns.map V.int))) c2 (.lst [.int 5]) B = some (.lst (bigs.map V.int)) := by rw [upd_ne (ne_of_none b1 n2)]; exact b1
    have nBC : B ≠ C := ne_of_none b2 nC
    have b3 : upd (upd (upd H' c1 (.lst (ns.map V.int))) c2 (.lst [.int 5])) C (.lst (ns.map V.int ++ [.int 5])) B = some (.lst (bigs.map V.int)) := by rw [upd_ne nBC]; exact b2
    have nBS : B ≠ S := ne_of_none b3 nS
    refine q _ S B C bigs (ns ++ [5]) (fun b o e => keep b o (sm b o e)) ?_ (by simp) (by rw [List.length_append]; show ns.length + 1 ≤ 100; omega) (by omega) hp nBS nCS nBC
    refine ⟨upd_same, keep B _ hB, ?_⟩
    rw [upd_ne nCS, upd_same, List.map_append]
    rfl
end

/-! ### the text as code -/
def gl0 : List (Str × D) := [("BadCount", .cls "BadCount"), ("UnknownName", .cls "UnknownName"), ("BadName", .cls "BadName"), ("BadText", .cls "BadText"), ("BadArrow", .cls "BadArrow"), ("BadTop", .cls "BadTop"), ("BadRing", .cls "BadRing"), ("BadTable", .cls "BadTable"), ("BadState", .cls "BadState"), ("BadNumber", .cls "BadNumber"), ("BadFact", .cls "BadFact"), ("BadSet", .cls "BadSet"), ("Clash", .cls "Clash"), ("HasOdd", .cls "HasOdd"), ("HasRing", .cls "HasRing"), ("NoOdd", .cls "NoOdd"), ("NoEven", .cls "NoEven"), ("UnlikeParts", .cls "UnlikeParts"), ("NothingToUndo", .cls "NothingToUndo"), ("Settles", .cls "Settles"), ("RestError", .cls "RestError")]
@[simp] theorem gl0_0 : mGlob gl0 0 = mC (.cls "BadCount") := rfl
@[simp] theorem gl0_1 : mGlob gl0 1 = mC (.cls "UnknownName") := rfl
@[simp] theorem gl0_2 : mGlob gl0 2 = mC (.cls "BadName") := rfl
@[simp] theorem gl0_3 : mGlob gl0 3 = mC (.cls "BadText") := rfl
@[simp] theorem gl0_4 : mGlob gl0 4 = mC (.cls "BadArrow") := rfl
@[simp] theorem gl0_5 : mGlob gl0 5 = mC (.cls "BadTop") := rfl
@[simp] theorem gl0_6 : mGlob gl0 6 = mC (.cls "BadRing") := rfl
@[simp] theorem gl0_7 : mGlob gl0 7 = mC (.cls "BadTable") := rfl
@[simp] theorem gl0_8 : mGlob gl0 8 = mC (.cls "BadState") := rfl
@[simp] theorem gl0_9 : mGlob gl0 9 = mC (.cls "BadNumber") := rfl
@[simp] theorem gl0_10 : mGlob gl0 10 = mC (.cls "BadFact") := rfl
@[simp] theorem gl0_11 : mGlob gl0 11 = mC (.cls "BadSet") := rfl
@[simp] theorem gl0_12 : mGlob gl0 12 = mC (.cls "Clash") := rfl
@[simp] theorem gl0_13 : mGlob gl0 13 = mC (.cls "HasOdd") := rfl
@[simp] theorem gl0_14 : mGlob gl0 14 = mC (.cls "HasRing") := rfl
@[simp] theorem gl0_15 : mGlob gl0 15 = mC (.cls "NoOdd") := rfl
@[simp] theorem gl0_16 : mGlob gl0 16 = mC (.cls "NoEven") := rfl
@[simp] theorem gl0_17 : mGlob gl0 17 = mC (.cls "UnlikeParts") := rfl
@[simp] theorem gl0_18 : mGlob gl0 18 = mC (.cls "NothingToUndo") := rfl
@[simp] theorem gl0_19 : mGlob gl0 19 = mC (.cls "Settles") := rfl
@[simp] theorem gl0_20 : mGlob gl0 20 = mC (.cls "RestError") := rfl
abbrev s_law_signs : Stmt := topS 25
def N_law_signs : List Str := ["_law_signs_here"]
theorem sc_law_signs : FnScope N_law_signs [] (defScope s_law_signs) := ⟨rfl, rfl, rfl, by decide +kernel, by decide +kernel, by decide +kernel, by decide +kernel⟩
def c_law_signs_k1 : C := (.seq (.ret (.bin .add (.var 0) (.str "abcdefghijklmnopqrstuvwxyz{|}~\n"))) .nil)
def c_law_signs : C := (.seq (.asg (.nm 0) (.str " !\"#$&'()*+,-./0123456789:;<=>?@ABCDEFGHIJKLMNOPQRSTUVWXYZ[\\]^_`")) c_law_signs_k1)
def f_law_signs : List (Str × List Str) := []
theorem ck_law_signs : chk ⟨N_law_signs, defScope s_law_signs, fun _ => true, gl0, f_law_signs⟩ c_law_signs (.b (defBody s_law_signs)) = true := by decide +kernel
abbrev s_law_thing : Stmt := topS 27
def N_law_thing : List Str := ["_law_state", "_law_amount", "_law_signs_here", "_law_scrap", "_law_k"]
theorem sc_law_thing : FnScope N_law_thing ["_law_state"] (defScope s_law_thing) := ⟨rfl, rfl, rfl, by decide +kernel, by decide +kernel, by decide +kernel, by decide +kernel⟩
def c_law_thing_e1 : C := (.ix (.var 2) (.call 0 (.acons (.var 0) (.acons (.blt .len (.acons (.var 2) .anil)) .anil))))
def c_law_thing_k3 : C := (.seq (.ret (.ix (.lst (.acons (.var 3) (.acons (.var 1) (.acons .non (.acons (.tup (.acons (.var 3) (.acons (.var 1) .anil))) (.acons (.bin .sub (.neg (.bin .pow (.int 10) (.int 28))) (.var 1)) (.acons (.str "") (.acons (.int 0) (.acons (.bl true) (.acons (.dct (.pcons (.var 3) (.int 1) .pnil)) .anil)))))))))) (.call 0 (.acons (.var 0) (.acons (.int 9) .anil))))) .nil)
def c_law_thing_k2 : C := (.seq (.asg (.nm 3) (.sm .join (.str "") (.acons (.comp (.irng (.acons (.call 0 (.acons (.var 0) (.acons (.int 6) .anil))) .anil)) (.nm 4) [("_law_k", 4)] .tno c_law_thing_e1) .anil))) c_law_thing_k3)
def c_law_thing_k1 : C := (.seq (.asg (.nm 2) (.call 1 .anil)) c_law_thing_k2)
def c_law_thing : C := (.seq (.asg (.nm 1) (.bin .sub (.call 0 (.acons (.var 0) (.acons (.int 2000001) .anil))) (.int 1000000))) c_law_thing_k1)
def f_law_thing : List (Str × List Str) := [("_law_draw", []), ("_law_signs", [])]
theorem ck_law_thing : chk ⟨N_law_thing, defScope s_law_thing, fun _ => true, gl0, f_law_thing⟩ c_law_thing (.b (defBody s_law_thing)) = true := by decide +kernel
abbrev s_law_sorts : Stmt := topS 26
def N_law_sorts : List Str := ["_law_e", "_law_sorts_here"]
theorem sc_law_sorts : FnScope N_law_sorts ["_law_e"] (defScope s_law_sorts) := ⟨rfl, rfl, rfl, by decide +kernel, by decide +kernel, by decide +kernel, by decide +kernel⟩
def c_law_sorts_k7 : C := (.seq (.ret (.var 1)) .nil)
def c_law_sorts_k6 : C := (.seq (.asg (.nm 1) (.bin .add (.var 1) (.lst (.acons (.isx (.var 0) (.glob 19)) (.acons (.isx (.var 0) (.glob 18)) .anil))))) c_law_sorts_k7)
def c_law_sorts_k5 : C := (.seq (.asg (.nm 1) (.bin .add (.var 1) (.lst (.acons (.isx (.var 0) (.glob 17)) (.acons (.isx (.var 0) (.glob 16)) (.acons (.isx (.var 0) (.glob 15)) .anil)))))) c_law_sorts_k6)
def c_law_sorts_k4 : C := (.seq (.asg (.nm 1) (.bin .add (.var 1) (.lst (.acons (.isx (.var 0) (.glob 14)) (.acons (.isx (.var 0) (.glob 13)) (.acons (.isx (.var 0) (.glob 12)) .anil)))))) c_law_sorts_k5)
def c_law_sorts_k3 : C := (.seq (.asg (.nm 1) (.bin .add (.var 1) (.lst (.acons (.isx (.var 0) (.glob 11)) (.acons (.isx (.var 0) (.glob 10)) (.acons (.isx (.var 0) (.glob 9)) .anil)))))) c_law_sorts_k4)
def c_law_sorts_k2 : C := (.seq (.asg (.nm 1) (.bin .add (.var 1) (.lst (.acons (.isx (.var 0) (.glob 8)) (.acons (.isx (.var 0) (.glob 7)) (.acons (.isx (.var 0) (.glob 6)) .anil)))))) c_law_sorts_k3)
def c_law_sorts_k1 : C := (.seq (.asg (.nm 1) (.bin .add (.var 1) (.lst (.acons (.isx (.var 0) (.glob 5)) (.acons (.isx (.var 0) (.glob 4)) (.acons (.isx (.var 0) (.glob 3)) .anil)))))) c_law_sorts_k2)
def c_law_sorts : C := (.seq (.asg (.nm 1) (.lst (.acons (.isx (.var 0) (.glob 2)) (.acons (.isx (.var 0) (.glob 1)) (.acons (.isx (.var 0) (.glob 0)) .anil))))) c_law_sorts_k1)
def f_law_sorts : List (Str × List Str) := []
theorem ck_law_sorts : chk ⟨N_law_sorts, defScope s_law_sorts, fun _ => true, gl0, f_law_sorts⟩ c_law_sorts (.b (defBody s_law_sorts)) = true := by decide +kernel
abbrev s_law_keeps : Stmt := topS 30
def N_law_keeps : List Str := ["_law_made", "_law_t", "_law_k", "_law_told", "_law_truths", "_law_item", "_law_j"]
theorem sc_law_keeps : FnScope N_law_keeps ["_law_made", "_law_t"] (defScope s_law_keeps) := ⟨rfl, rfl, rfl, by decide +kernel, by decide +kernel, by decide +kernel, by decide +kernel⟩
def c_law_keeps_e1 : C := (.cme .eq (.var 6) (.var 2))
def c_law_keeps_l2 : C := (.seq (.sif (.tor (.tnot (.tv (.isx (.ix (.var 0) (.var 2)) (.glob 20)))) (.tone (.tnot (.tv (.isx (.ix (.var 0) (.var 2)) (.bty "ValueError")))))) (.seq (.ret (.bl false))
    .nil) .nil)
    (.seq (.sif (.cme .ne (.call 0 (.acons (.ix (.var 0) (.var 2)) .anil)) (.comp (.irng (.acons (.int 20) .anil)) (.nm 6) [("_law_j", 6)] .tno c_law_keeps_e1)) (.seq (.ret (.bl false))
    .nil) .nil)
    .nil))
def c_law_keeps_e3 : C := (.isi "bool" "bool" (.var 5))
def c_law_keeps_e4 : C := (.isi "bool" "bool" (.var 5))
def c_law_keeps_k5 : C := (.seq (.ret (.andV (.cme .eq (.var 3) (.var 1)) (.one (.cme .eq (.var 4) (.comp (.iseq (.var 1)) (.nm 5) [("_law_item", 5)] .tno c_law_keeps_e4))))) .nil)
def c_law_keeps_k4 : C := (.seq (.asgC 4 (.iseq (.var 3)) (.nm 5) [("_law_item", 5)] .tno c_law_keeps_e3) c_law_keeps_k5)
def c_law_keeps_k3 : C := (.seq (.asg (.nm 3) (.bin .add (.var 3) (.lst (.acons (.fld "value" (.ix (.var 0) (.int 12))) (.acons (.fld "value" (.ix (.var 0) (.int 13))) (.acons (.fld "value" (.ix (.var 0) (.int 14))) (.acons (.fld "names" (.ix (.var 0) (.int 15))) .anil))))))) c_law_keeps_k4)
def c_law_keeps_k2 : C := (.seq (.asg (.nm 3) (.bin .add (.var 3) (.lst (.acons (.fld "value" (.ix (.var 0) (.int 6))) (.acons (.fld "name" (.ix (.var 0) (.int 7))) (.acons (.fld "value" (.ix (.var 0) (.int 8))) (.acons (.fld "value" (.ix (.var 0) (.int 9))) (.acons (.fld "value" (.ix (.var 0) (.int 10))) (.acons (.fld "value" (.ix (.var 0) (.int 11))) .anil))))))))) c_law_keeps_k3)
def c_law_keeps_k1 : C := (.seq (.asg (.nm 3) (.lst (.acons (.fld "name" (.ix (.var 0) (.int 0))) (.acons (.fld "name" (.ix (.var 0) (.int 1))) (.acons (.fld "count" (.ix (.var 0) (.int 2))) (.acons (.fld "value" (.ix (.var 0) (.int 3))) (.acons (.fld "value" (.ix (.var 0) (.int 4))) (.acons (.fld "text" (.ix (.var 0) (.int 5))) .anil)))))))) c_law_keeps_k2)
def c_law_keeps : C := (.seq (.sfor (.irng (.acons (.int 20) .anil)) (.nm 2) c_law_keeps_l2) c_law_keeps_k1)
def f_law_keeps : List (Str × List Str) := [("_law_sorts", [])]
theorem ck_law_keeps : chk ⟨N_law_keeps, defScope s_law_keeps, fun _ => true, gl0, f_law_keeps⟩ c_law_keeps (.b (defBody s_law_keeps)) = true := by decide +kernel
abbrev s_law_all : Stmt := topS 28
def N_law_all : List Str := ["_law_t", "_law_made"]
theorem sc_law_all : FnScope N_law_all ["_law_t"] (defScope s_law_all) := ⟨rfl, rfl, rfl, by decide +kernel, by decide +kernel, by decide +kernel, by decide +kernel⟩
def c_law_all_k4 : C := (.seq (.ret (.var 1)) .nil)
def c_law_all_k3 : C := (.seq (.asg (.nm 1) (.bin .add (.var 1) (.lst (.acons (.call 19 .anil) (.acons (.call 18 .anil) (.acons (.call 17 .anil) .anil)))))) c_law_all_k4)
def c_law_all_k2 : C := (.seq (.asg (.nm 1) (.bin .add (.var 1) (.lst (.acons (.call 16 (.acons (.ix (.var 0) (.int 11)) .anil)) (.acons (.call 15 (.acons (.ix (.var 0) (.int 12)) .anil)) (.acons (.call 14 (.acons (.ix (.var 0) (.int 13)) .anil)) (.acons (.call 13 (.acons (.ix (.var 0) (.int 14)) .anil)) (.acons (.call 12 (.acons (.ix (.var 0) (.int 15)) .anil)) (.acons (.call 11 .anil) .anil))))))))) c_law_all_k3)
def c_law_all_k1 : C := (.seq (.asg (.nm 1) (.bin .add (.var 1) (.lst (.acons (.call 10 (.acons (.ix (.var 0) (.int 5)) .anil)) (.acons (.call 9 (.acons (.ix (.var 0) (.int 6)) .anil)) (.acons (.call 8 (.acons (.ix (.var 0) (.int 7)) .anil)) (.acons (.call 7 (.acons (.ix (.var 0) (.int 8)) .anil)) (.acons (.call 6 (.acons (.ix (.var 0) (.int 9)) .anil)) (.acons (.call 5 (.acons (.ix (.var 0) (.int 10)) .anil)) .anil))))))))) c_law_all_k2)
def c_law_all : C := (.seq (.asg (.nm 1) (.lst (.acons (.call 4 (.acons (.ix (.var 0) (.int 0)) .anil)) (.acons (.call 3 (.acons (.ix (.var 0) (.int 1)) .anil)) (.acons (.call 2 (.acons (.ix (.var 0) (.int 2)) .anil)) (.acons (.call 1 (.acons (.ix (.var 0) (.int 3)) .anil)) (.acons (.call 0 (.acons (.ix (.var 0) (.int 4)) .anil)) .anil))))))) c_law_all_k1)
def f_law_all : List (Str × List Str) := [("BadArrow", []), ("BadTop", []), ("BadCount", []), ("UnknownName", []), ("BadName", []), ("BadFact", []), ("BadSet", []), ("BadRing", []), ("BadTable", []), ("BadState", []), ("BadText", []), ("NoEven", []), ("UnlikeParts", []), ("Clash", []), ("HasOdd", []), ("HasRing", []), ("BadNumber", []), ("NothingToUndo", []), ("Settles", []), ("NoOdd", [])]
theorem ck_law_all : chk ⟨N_law_all, defScope s_law_all, fun _ => true, gl0, f_law_all⟩ c_law_all (.b (defBody s_law_all)) = true := by decide +kernel
abbrev s_law_named : Stmt := topS 29
def N_law_named : List Str := ["_law_t", "_law_made"]
theorem sc_law_named : FnScope N_law_named ["_law_t"] (defScope s_law_named) := ⟨rfl, rfl, rfl, by decide +kernel, by decide +kernel, by decide +kernel, by decide +kernel⟩
def c_law_named_k5 : C := (.seq (.ret (.var 1)) .nil)
def c_law_named_k4 : C := (.seq (.asg (.nm 1) (.bin .add (.var 1) (.lst (.acons (.call 19 .anil) (.acons (.call 18 .anil) (.acons (.call 17 .anil) (.acons (.call 16 .anil) .anil))))))) c_law_named_k5)
def c_law_named_k3 : C := (.seq (.asg (.nm 1) (.bin .add (.var 1) (.lst (.acons (.callk 15 (.acons (.ix (.var 0) (.int 12)) .anil)) (.acons (.callk 14 (.acons (.ix (.var 0) (.int 13)) .anil)) (.acons (.callk 13 (.acons (.ix (.var 0) (.int 14)) .anil)) (.acons (.callk 12 (.acons (.ix (.var 0) (.int 15)) .anil)) .anil))))))) c_law_named_k4)
def c_law_named_k2 : C := (.seq (.asg (.nm 1) (.bin .add (.var 1) (.lst (.acons (.callk 11 (.acons (.ix (.var 0) (.int 8)) .anil)) (.acons (.callk 10 (.acons (.ix (.var 0) (.int 9)) .anil)) (.acons (.callk 9 (.acons (.ix (.var 0) (.int 10)) .anil)) (.acons (.callk 8 (.acons (.ix (.var 0) (.int 11)) .anil)) .anil))))))) c_law_named_k3)
def c_law_named_k1 : C := (.seq (.asg (.nm 1) (.bin .add (.var 1) (.lst (.acons (.callk 7 (.acons (.ix (.var 0) (.int 4)) .anil)) (.acons (.callk 6 (.acons (.ix (.var 0) (.int 5)) .anil)) (.acons (.callk 5 (.acons (.ix (.var 0) (.int 6)) .anil)) (.acons (.callk 4 (.acons (.ix (.var 0) (.int 7)) .anil)) .anil))))))) c_law_named_k2)
def c_law_named : C := (.seq (.asg (.nm 1) (.lst (.acons (.callk 3 (.acons (.ix (.var 0) (.int 0)) .anil)) (.acons (.callk 2 (.acons (.ix (.var 0) (.int 1)) .anil)) (.acons (.callk 1 (.acons (.ix (.var 0) (.int 2)) .anil)) (.acons (.callk 0 (.acons (.ix (.var 0) (.int 3)) .anil)) .anil)))))) c_law_named_k1)
def f_law_named : List (Str × List Str) := [("BadTop", ["value"]), ("BadCount", ["count"]), ("UnknownName", ["name"]), ("BadName", ["name"]), ("BadTable", ["name"]), ("BadState", ["value"]), ("BadText", ["text"]), ("BadArrow", ["value"]), ("BadNumber", ["value"]), ("BadFact", ["value"]), ("BadSet", ["value"]), ("BadRing", ["value"]), ("UnlikeParts", ["names"]), ("Clash", ["value"]), ("HasOdd", ["value"]), ("HasRing", ["value"]), ("NothingToUndo", []), ("Settles", []), ("NoOdd", []), ("NoEven", [])]
theorem ck_law_named : chk ⟨N_law_named, defScope s_law_named, fun _ => true, gl0, f_law_named⟩ c_law_named (.b (defBody s_law_named)) = true := by decide +kernel
abbrev s_law : Stmt := topS 31
def N_law : List Str := ["_law_script", "_law_state", "_law_t", "_law_lists", "_law_pair", "_law_row", "_law_inner", "_law_dicts", "_law_k"]
theorem sc_law : FnScope N_law ["_law_script"] (defScope s_law) := ⟨rfl, rfl, rfl, by decide +kernel, by decide +kernel, by decide +kernel, by decide +kernel⟩
def c_law_e1 : C := (.call 0 (.acons (.var 1) .anil))
def c_law_e2 : C := (.newL (.acons (.call 4 (.acons (.var 1) (.acons (.int 9) .anil))) .anil))
def c_law_l3 : C := (.seq (.drop (.appO (.var 5) (.call 4 (.acons (.var 1) (.acons (.int 9) .anil)))))
    .nil)
def c_law_e4 : C := (.tup (.acons (.newL (.acons (.call 4 (.acons (.var 1) (.acons (.int 9) .anil))) .anil)) .anil))
def c_law_l5 : C := (.seq (.drop (.appO (.ix (.var 5) (.int 0)) (.int 1)))
    .nil)
def c_law_e6 : C := (.newD (.pcons (.str "a") (.call 4 (.acons (.var 1) (.acons (.int 9) .anil))) .pnil))
def c_law_l7 : C := (.seq (.setO (.var 5) (.str "b") (.lst (.acons (.ixd (.var 5) (.str "a")) .anil)))
    .nil)
def c_law_k13 : C := (.seq (.ret (.andV (.call 1 (.acons (.ix (.var 4) (.int 0)) (.acons (.var 7) .anil))) (.one (.call 1 (.acons (.ix (.var 4) (.int 1)) (.acons (.var 7) .anil)))))) .nil)
def c_law_k12 : C := (.seq (.sfor (.iseq (.var 7)) (.nm 5) c_law_l7) c_law_k13)
def c_law_k11 : C := (.seq (.asg (.nm 4) (.lst (.acons (.call 2 (.acons (.var 7) .anil)) (.acons (.call 3 (.acons (.var 7) .anil)) .anil)))) c_law_k12)
def c_law_k10 : C := (.seq (.asgC 7 (.irng (.acons (.int 16) .anil)) (.nm 8) [("_law_k", 8)] .tno c_law_e6) c_law_k11)
def c_law_k9 : C := (.seq (.sif (.tor (.tnot (.tv (.call 1 (.acons (.ix (.var 4) (.int 0)) (.acons (.var 6) .anil))))) (.tone (.tnot (.tv (.call 1 (.acons (.ix (.var 4) (.int 1)) (.acons (.var 6) .anil))))))) (.seq (.ret (.bl false))
    .nil) .nil) c_law_k10)
def c_law_k8 : C := (.seq (.sfor (.iseq (.var 6)) (.nm 5) c_law_l5) c_law_k9)
def c_law_k7 : C := (.seq (.asg (.nm 4) (.lst (.acons (.call 2 (.acons (.var 6) .anil)) (.acons (.call 3 (.acons (.var 6) .anil)) .anil)))) c_law_k8)
def c_law_k6 : C := (.seq (.asgC 6 (.irng (.acons (.int 16) .anil)) (.nm 8) [("_law_k", 8)] .tno c_law_e4) c_law_k7)
def c_law_k5 : C := (.seq (.sif (.tor (.tnot (.tv (.call 1 (.acons (.ix (.var 4) (.int 0)) (.acons (.var 3) .anil))))) (.tone (.tnot (.tv (.call 1 (.acons (.ix (.var 4) (.int 1)) (.acons (.var 3) .anil))))))) (.seq (.ret (.bl false))
    .nil) .nil) c_law_k6)
def c_law_k4 : C := (.seq (.sfor (.iseq (.var 3)) (.nm 5) c_law_l3) c_law_k5)
def c_law_k3 : C := (.seq (.asg (.nm 4) (.lst (.acons (.call 2 (.acons (.var 3) .anil)) (.acons (.call 3 (.acons (.var 3) .anil)) .anil)))) c_law_k4)
def c_law_k2 : C := (.seq (.asgC 3 (.irng (.acons (.int 16) .anil)) (.nm 8) [("_law_k", 8)] .tno c_law_e2) c_law_k3)
def c_law_k1 : C := (.seq (.sif (.tor (.tnot (.tv (.call 1 (.acons (.call 2 (.acons (.var 2) .anil)) (.acons (.var 2) .anil))))) (.tone (.tnot (.tv (.call 1 (.acons (.call 3 (.acons (.var 2) .anil)) (.acons (.var 2) .anil))))))) (.seq (.ret (.bl false))
    .nil) .nil) c_law_k2)
def c_law : C := (.seq (.asgC 2 (.irng (.acons (.int 16) .anil)) (.nm 8) [("_law_k", 8)] .tno c_law_e1) c_law_k1)
def f_law : List (Str × List Str) := [("_law_thing", []), ("_law_keeps", []), ("_law_all", []), ("_law_named", []), ("_law_draw", [])]
theorem ck_law0 : chkHead ⟨N_law, defScope s_law, fun _ => true, gl0, f_law⟩ ((defBody s_law).headD (.Pass ⟨0, 0, 0, 0⟩)) = true := by decide +kernel
theorem ck_law : chk ⟨N_law, defScope s_law, fun _ => true, gl0, f_law⟩ c_law (.b (defBody s_law).tail) = true := by decide +kernel
theorem bd_law : defBody s_law = (defBody s_law).headD (.Pass ⟨0, 0, 0, 0⟩) :: (defBody s_law).tail := by rfl
def t_law_signs : Tb := []
def F_law_signs : Fn := runF 0 1 (den gl0 t_law_signs c_law_signs).s
def t_law_thing : Tb := [("_law_draw", [], 2, drawF), ("_law_signs", [], 0, F_law_signs)]
@[simp] theorem t_law_thing_0 (ma : MA) : mCallT t_law_thing 0 ma = mCall 2 drawF ma := rfl
@[simp] theorem t_law_thing_1 (ma : MA) : mCallT t_law_thing 1 ma = mCall 0 F_law_signs ma := rfl
def F_law_thing : Fn := runF 1 5 (den gl0 t_law_thing c_law_thing).s
def t_law_sorts : Tb := []
def F_law_sorts : Fn := runF 1 2 (den gl0 t_law_sorts c_law_sorts).s
def t_law_keeps : Tb := [("_law_sorts", [], 1, F_law_sorts)]
@[simp] theorem t_law_keeps_0 (ma : MA) : mCallT t_law_keeps 0 ma = mCall 1 F_law_sorts ma := rfl
def F_law_keeps : Fn := runF 2 7 (den gl0 t_law_keeps c_law_keeps).s
def t_law_all : Tb := [("BadArrow", [], 1, (errF "BadArrow" ["value"])), ("BadTop", [], 1, (errF "BadTop" ["value"])), ("BadCount", [], 1, (errF "BadCount" ["count"])), ("UnknownName", [], 1, (errF "UnknownName" ["name"])), ("BadName", [], 1, (errF "BadName" ["name"])), ("BadFact", [], 1, (errF "BadFact" ["value"])), ("BadSet", [], 1, (errF "BadSet" ["value"])), ("BadRing", [], 1, (errF "BadRing" ["value"])), ("BadTable", [], 1, (errF "BadTable" ["name"])), ("BadState", [], 1, (errF "BadState" ["value"])), ("BadText", [], 1, (errF "BadText" ["text"])), ("NoEven", [], 0, (errF "NoEven" [])), ("UnlikeParts", [], 1, (errF "UnlikeParts" ["names"])), ("Clash", [], 1, (errF "Clash" ["value"])), ("HasOdd", [], 1, (errF "HasOdd" ["value"])), ("HasRing", [], 1, (errF "HasRing" ["value"])), ("BadNumber", [], 1, (errF "BadNumber" ["value"])), ("NothingToUndo", [], 0, (errF "NothingToUndo" [])), ("Settles", [], 0, (errF "Settles" [])), ("NoOdd", [], 0, (errF "NoOdd" []))]
@[simp] theorem t_law_all_0 (ma : MA) : mCallT t_law_all 0 ma = mCall 1 (errF "BadArrow" ["value"]) ma := rfl
@[simp] theorem t_law_all_1 (ma : MA) : mCallT t_law_all 1 ma = mCall 1 (errF "BadTop" ["value"]) ma := rfl
@[simp] theorem t_law_all_2 (ma : MA) : mCallT t_law_all 2 ma = mCall 1 (errF "BadCount" ["count"]) ma := rfl
@[simp] theorem t_law_all_3 (ma : MA) : mCallT t_law_all 3 ma = mCall 1 (errF "UnknownName" ["name"]) ma := rfl
@[simp] theorem t_law_all_4 (ma : MA) : mCallT t_law_all 4 ma = mCall 1 (errF "BadName" ["name"]) ma := rfl
@[simp] theorem t_law_all_5 (ma : MA) : mCallT t_law_all 5 ma = mCall 1 (errF "BadFact" ["value"]) ma := rfl
@[simp] theorem t_law_all_6 (ma : MA) : mCallT t_law_all 6 ma = mCall 1 (errF "BadSet" ["value"]) ma := rfl
@[simp] theorem t_law_all_7 (ma : MA) : mCallT t_law_all 7 ma = mCall 1 (errF "BadRing" ["value"]) ma := rfl
@[simp] theorem t_law_all_8 (ma : MA) : mCallT t_law_all 8 ma = mCall 1 (errF "BadTable" ["name"]) ma := rfl
@[simp] theorem t_law_all_9 (ma : MA) : mCallT t_law_all 9 ma = mCall 1 (errF "BadState" ["value"]) ma := rfl
@[simp] theorem t_law_all_10 (ma : MA) : mCallT t_law_all 10 ma = mCall 1 (errF "BadText" ["text"]) ma := rfl
@[simp] theorem t_law_all_11 (ma : MA) : mCallT t_law_all 11 ma = mCall 0 (errF "NoEven" []) ma := rfl
@[simp] theorem t_law_all_12 (ma : MA) : mCallT t_law_all 12 ma = mCall 1 (errF "UnlikeParts" ["names"]) ma := rfl
@[simp] theorem t_law_all_13 (ma : MA) : mCallT t_law_all 13 ma = mCall 1 (errF "Clash" ["value"]) ma := rfl
@[simp] theorem t_law_all_14 (ma : MA) : mCallT t_law_all 14 ma = mCall 1 (errF "HasOdd" ["value"]) ma := rfl
@[simp] theorem t_law_all_15 (ma : MA) : mCallT t_law_all 15 ma = mCall 1 (errF "HasRing" ["value"]) ma := rfl
@[simp] theorem t_law_all_16 (ma : MA) : mCallT t_law_all 16 ma = mCall 1 (errF "BadNumber" ["value"]) ma := rfl
@[simp] theorem t_law_all_17 (ma : MA) : mCallT t_law_all 17 ma = mCall 0 (errF "NothingToUndo" []) ma := rfl
@[simp] theorem t_law_all_18 (ma : MA) : mCallT t_law_all 18 ma = mCall 0 (errF "Settles" []) ma := rfl
@[simp] theorem t_law_all_19 (ma : MA) : mCallT t_law_all 19 ma = mCall 0 (errF "NoOdd" []) ma := rfl
def F_law_all : Fn := runF 1 2 (den gl0 t_law_all c_law_all).s
def t_law_named : Tb := [("BadTop", ["value"], 1, (fun ds s => (errF "BadTop" ["value"]) (pick [0] ds) s)), ("BadCount", ["count"], 1, (fun ds s => (errF "BadCount" ["count"]) (pick [0] ds) s)), ("UnknownName", ["name"], 1, (fun ds s => (errF "UnknownName" ["name"]) (pick [0] ds) s)), ("BadName", ["name"], 1, (fun ds s => (errF "BadName" ["name"]) (pick [0] ds) s)), ("BadTable", ["name"], 1, (fun ds s => (errF "BadTable" ["name"]) (pick [0] ds) s)), ("BadState", ["value"], 1, (fun ds s => (errF "BadState" ["value"]) (pick [0] ds) s)), ("BadText", ["text"], 1, (fun ds s => (errF "BadText" ["text"]) (pick [0] ds) s)), ("BadArrow", ["value"], 1, (fun ds s => (errF "BadArrow" ["value"]) (pick [0] ds) s)), ("BadNumber", ["value"], 1, (fun ds s => (errF "BadNumber" ["value"]) (pick [0] ds) s)), ("BadFact", ["value"], 1, (fun ds s => (errF "BadFact" ["value"]) (pick [0] ds) s)), ("BadSet", ["value"], 1, (fun ds s => (errF "BadSet" ["value"]) (pick [0] ds) s)), ("BadRing", ["value"], 1, (fun ds s => (errF "BadRing" ["value"]) (pick [0] ds) s)), ("UnlikeParts", ["names"], 1, (fun ds s => (errF "UnlikeParts" ["names"]) (pick [0] ds) s)), ("Clash", ["value"], 1, (fun ds s => (errF "Clash" ["value"]) (pick [0] ds) s)), ("HasOdd", ["value"], 1, (fun ds s => (errF "HasOdd" ["value"]) (pick [0] ds) s)), ("HasRing", ["value"], 1, (fun ds s => (errF "HasRing" ["value"]) (pick [0] ds) s)), ("NothingToUndo", [], 0, (errF "NothingToUndo" [])), ("Settles", [], 0, (errF "Settles" [])), ("NoOdd", [], 0, (errF "NoOdd" [])), ("NoEven", [], 0, (errF "NoEven" []))]
@[simp] theorem t_law_named_0 (ma : MA) : mCallT t_law_named 0 ma = mCall 1 (fun ds s => (errF "BadTop" ["value"]) (pick [0] ds) s) ma := rfl
@[simp] theorem t_law_named_1 (ma : MA) : mCallT t_law_named 1 ma = mCall 1 (fun ds s => (errF "BadCount" ["count"]) (pick [0] ds) s) ma := rfl
@[simp] theorem t_law_named_2 (ma : MA) : mCallT t_law_named 2 ma = mCall 1 (fun ds s => (errF "UnknownName" ["name"]) (pick [0] ds) s) ma := rfl
@[simp] theorem t_law_named_3 (ma : MA) : mCallT t_law_named 3 ma = mCall 1 (fun ds s => (errF "BadName" ["name"]) (pick [0] ds) s) ma := rfl
@[simp] theorem t_law_named_4 (ma : MA) : mCallT t_law_named 4 ma = mCall 1 (fun ds s => (errF "BadTable" ["name"]) (pick [0] ds) s) ma := rfl
@[simp] theorem t_law_named_5 (ma : MA) : mCallT t_law_named 5 ma = mCall 1 (fun ds s => (errF "BadState" ["value"]) (pick [0] ds) s) ma := rfl
@[simp] theorem t_law_named_6 (ma : MA) : mCallT t_law_named 6 ma = mCall 1 (fun ds s => (errF "BadText" ["text"]) (pick [0] ds) s) ma := rfl
@[simp] theorem t_law_named_7 (ma : MA) : mCallT t_law_named 7 ma = mCall 1 (fun ds s => (errF "BadArrow" ["value"]) (pick [0] ds) s) ma := rfl
@[simp] theorem t_law_named_8 (ma : MA) : mCallT t_law_named 8 ma = mCall 1 (fun ds s => (errF "BadNumber" ["value"]) (pick [0] ds) s) ma := rfl
@[simp] theorem t_law_named_9 (ma : MA) : mCallT t_law_named 9 ma = mCall 1 (fun ds s => (errF "BadFact" ["value"]) (pick [0] ds) s) ma := rfl
@[simp] theorem t_law_named_10 (ma : MA) : mCallT t_law_named 10 ma = mCall 1 (fun ds s => (errF "BadSet" ["value"]) (pick [0] ds) s) ma := rfl
@[simp] theorem t_law_named_11 (ma : MA) : mCallT t_law_named 11 ma = mCall 1 (fun ds s => (errF "BadRing" ["value"]) (pick [0] ds) s) ma := rfl
@[simp] theorem t_law_named_12 (ma : MA) : mCallT t_law_named 12 ma = mCall 1 (fun ds s => (errF "UnlikeParts" ["names"]) (pick [0] ds) s) ma := rfl
@[simp] theorem t_law_named_13 (ma : MA) : mCallT t_law_named 13 ma = mCall 1 (fun ds s => (errF "Clash" ["value"]) (pick [0] ds) s) ma := rfl
@[simp] theorem t_law_named_14 (ma : MA) : mCallT t_law_named 14 ma = mCall 1 (fun ds s => (errF "HasOdd" ["value"]) (pick [0] ds) s) ma := rfl
@[simp] theorem t_law_named_15 (ma : MA) : mCallT t_law_named 15 ma = mCall 1 (fun ds s => (errF "HasRing" ["value"]) (pick [0] ds) s) ma := rfl
@[simp] theorem t_law_named_16 (ma : MA) : mCallT t_law_named 16 ma = mCall 0 (errF "NothingToUndo" []) ma := rfl
@[simp] theorem t_law_named_17 (ma : MA) : mCallT t_law_named 17 ma = mCall 0 (errF "Settles" []) ma := rfl
@[simp] theorem t_law_named_18 (ma : MA) : mCallT t_law_named 18 ma = mCall 0 (errF "NoOdd" []) ma := rfl
@[simp] theorem t_law_named_19 (ma : MA) : mCallT t_law_named 19 ma = mCall 0 (errF "NoEven" []) ma := rfl
def F_law_named : Fn := runF 1 2 (den gl0 t_law_named c_law_named).s
def t_law : Tb := [("_law_thing", [], 1, F_law_thing), ("_law_keeps", [], 2, F_law_keeps), ("_law_all", [], 1, F_law_all), ("_law_named", [], 1, F_law_named), ("_law_draw", [], 2, drawF)]
@[simp] theorem t_law_0 (ma : MA) : mCallT t_law 0 ma = mCall 1 F_law_thing ma := rfl
@[simp] theorem t_law_1 (ma : MA) : mCallT t_law 1 ma = mCall 2 F_law_keeps ma := rfl
@[simp] theorem t_law_2 (ma : MA) : mCallT t_law 2 ma = mCall 1 F_law_all ma := rfl
@[simp] theorem t_law_3 (ma : MA) : mCallT t_law 3 ma = mCall 1 F_law_named ma := rfl
@[simp] theorem t_law_4 (ma : MA) : mCallT t_law 4 ma = mCall 2 drawF ma := rfl
/-! ### the law, over the code alone -/
end SR

set_option Elab.async false
set_option linter.all false
set_option maxRecDepth 100000
set_option autoImplicit false
set_option maxHeartbeats 4000000
namespace SR
open PySem PySem.Spec PyProof.Rows
open L2 hiding St
def mades (d0 d1 d2 d3 d4 d5 d6 d7 d8 d9 d10 d11 d12 d13 d14 d15 : D) : List D := [.err "BadName" [("name", d0)], .err "UnknownName" [("name", d1)], .err "BadCount" [("count", d2)], .err "BadTop" [("value", d3)], .err "BadArrow" [("value", d4)], .err "BadText" [("text", d5)], .err "BadState" [("value", d6)], .err "BadTable" [("name", d7)], .err "BadRing" [("value", d8)], .err "BadSet" [("value", d9)], .err "BadFact" [("value", d10)], .err "BadNumber" [("value", d11)], .err "HasRing" [("value", d12)], .err "HasOdd" [("value", d13)], .err "Clash" [("value", d14)], .err "UnlikeParts" [("names", d15)], .err "NoEven" [], .err "NoOdd" [], .err "Settles" [], .err "NothingToUndo" []]
theorem f_all (d0 d1 d2 d3 d4 d5 d6 d7 d8 d9 d10 d11 d12 d13 d14 d15 : D) (s : S) : F_law_all [.lst [d0, d1, d2, d3, d4, d5, d6, d7, d8, d9, d10, d11, d12, d13, d14, d15]] s = .ok (.lst (mades d0 d1 d2 d3 d4 d5 d6 d7 d8 d9 d10 d11 d12 d13 d14 d15)) s := by
  kernel_rfl
theorem f_named (d0 d1 d2 d3 d4 d5 d6 d7 d8 d9 d10 d11 d12 d13 d14 d15 : D) (s : S) : F_law_named [.lst [d0, d1, d2, d3, d4, d5, d6, d7, d8, d9, d10, d11, d12, d13, d14, d15]] s = .ok (.lst (mades d0 d1 d2 d3 d4 d5 d6 d7 d8 d9 d10 d11 d12 d13 d14 d15)) s := by
  kernel_rfl
theorem keeps1 (d0 d1 d2 d3 d4 d5 d6 d7 d8 d9 d10 d11 d12 d13 d14 d15 : D) (s : S) : (den gl0 t_law_keeps c_law_keeps).s (startE 7 [.lst (mades d0 d1 d2 d3 d4 d5 d6 d7 d8 d9 d10 d11 d12 d13 d14 d15), .lst [d0, d1, d2, d3, d4, d5, d6, d7, d8, d9, d10, d11, d12, d13, d14, d15]]) s = (den gl0 t_law_keeps c_law_keeps_k4).s [some (.v (.lst (mades d0 d1 d2 d3 d4 d5 d6 d7 d8 d9 d10 d11 d12 d13 d14 d15))), some (.v (.lst [d0, d1, d2, d3, d4, d5, d6, d7, d8, d9, d10, d11, d12, d13, d14, d15])), some (.v (.int 19)), some (.v (.lst [d0, d1, d2, d3, d4, d5, d6, d7, d8, d9, d10, d11, d12, d13, d14, d15])), none, none, none] s := by
  kernel_rfl
/-! ### equal to itself -/
def isB (s : S) (d : D) : Option Bool := (tyS s d).bind fun t => L2.kitB t "bool"
def Gd2 (s : S) (d : D) : Prop := deq s 59 d d = some true ∧ (isB s d).isSome = true
theorem deqL_refl {f : D → D → Option Bool} : ∀ {xs : List D}, (∀ d ∈ xs, f d d = some true) → deqL f xs xs = some (xs.map fun _ => true)
  | [], _ => rfl
  | x :: xs, h => by
    unfold deqL
    rw [h x List.mem_cons_self, deqL_refl fun d hd => h d (List.mem_cons_of_mem _ hd)]
    rfl
theorem eq_refl {s : S} {xs : List D} (h : ∀ d ∈ xs, deq s 59 d d = some true) : eqD3 (.v (.lst xs)) (.v (.lst xs)) s = .ok (.v (.bl true)) s := by
  unfold eqD3
  simp only [EV.get_v]
  split
  · rename_i p q e1 e2
    rw [e1] at e2
    cases e2
    rw [SeqAt.eqv_refl _ (SeqAt.canLay_of_shaped (py?_some e1).2)]
    rfl
  · have e : deq s 60 (.lst xs) (.lst xs) = some true := by
      show (if xs.length = xs.length then (deqL (deq s 59) xs xs).map fun bs => bs.all id else some false) = some true
      rw [if_pos rfl, deqL_refl h]
      simp
    show (match deq s 60 (.lst xs) (.lst xs) with | some b => Res.ok (EV.v (.bl b)) s | none => .fail) = _
    rw [e]
theorem isi_go (a b c d g : Option Sl) (s : S) (tb : Tb) : ∀ (ds acc : List D), (∀ x ∈ ds, (isB s x).isSome = true) → acc.length + ds.length ≤ 16 →
    goC [a, b, c, d, g, none, none] (.nm 5) tYesM (mIsi "bool" (mVar 5)) ds acc s = .ok (acc ++ ds.map fun x => .bl ((isB s x).getD false)) s
  | [], acc, _, _ => by simp [goC]
  | x :: ds, acc, h, hl => by
    obtain ⟨v, e⟩ := Option.isSome_iff_exists.mp (h x List.mem_cons_self)
    have e' : (tyS s x).bind (fun t => L2.kitB t "bool") = some v := e
    simp only [List.length_cons] at hl
    have hz : acc.length < sizeLine := Nat.lt_of_lt_of_le (show acc.length < 17 by omega) (by decide)
    unfold goC
    simp [Tg.bind, e', hz]
    rw [isi_go a b c d g s tb ds (acc ++ [D.bl v]) (fun y hy => h y (List.mem_cons_of_mem _ hy)) (by simp; omega)]
    simp [e]
theorem eq_bools (bs : List Bool) (s : S) : eqD3 (.v (.lst (bs.map D.bl))) (.v (.lst (bs.map D.bl))) s = .ok (.v (.bl true)) s := by
  apply eq_refl
  intro d hd
  obtain ⟨b, _, rfl⟩ := List.mem_map.mp hd
  show some (b == b) = some true
  simp
theorem f_keeps (d0 d1 d2 d3 d4 d5 d6 d7 d8 d9 d10 d11 d12 d13 d14 d15 : D) (s : S) (h : ∀ d ∈ [d0, d1, d2, d3, d4, d5, d6, d7, d8, d9, d10, d11, d12, d13, d14, d15], Gd2 s d) : F_law_keeps [.lst (mades d0 d1 d2 d3 d4 d5 d6 d7 d8 d9 d10 d11 d12 d13 d14 d15), .lst [d0, d1, d2, d3, d4, d5, d6, d7, d8, d9, d10, d11, d12, d13, d14, d15]] s = .ok (.bl true) s := by
  show finish ((den gl0 t_law_keeps c_law_keeps).s (startE 7 [.lst (mades d0 d1 d2 d3 d4 d5 d6 d7 d8 d9 d10 d11 d12 d13 d14 d15), .lst [d0, d1, d2, d3, d4, d5, d6, d7, d8, d9, d10, d11, d12, d13, d14, d15]]) s) = _
  rw [keeps1]
  generalize mades d0 d1 d2 d3 d4 d5 d6 d7 d8 d9 d10 d11 d12 d13 d14 d15 = M
  have hl : [d0, d1, d2, d3, d4, d5, d6, d7, d8, d9, d10, d11, d12, d13, d14, d15].length = 16 := rfl
  generalize [d0, d1, d2, d3, d4, d5, d6, d7, d8, d9, d10, d11, d12, d13, d14, d15] = T at *
  have e1 := isi_go (some (.v (.lst M))) (some (.v (.lst T))) (some (.v (.int 19))) (some (.v (.lst T))) none s t_law_keeps T [] (fun x hx => (h x hx).2) (by simp [hl])
  have hq := eq_refl (s := s) (xs := T) fun d hd => (h d hd).1
  simp only [c_law_keeps_k4, c_law_keeps_k5, c_law_keeps_e3, c_law_keeps_e4, den]
  simp [wipeE, e1, Ce.f, hq]
  have e2 := isi_go (some (.v (.lst M))) (some (.v (.lst T))) (some (.v (.int 19))) (some (.v (.lst T))) (some (.v (.lst (T.map fun x => .bl ((isB s x).getD false))))) s t_law_keeps T [] (fun x hx => (h x hx).2) (by simp [hl])
  simp [e2]
  have e3 := eq_bools (T.map fun x => (isB s x).getD false) s
  simp only [List.map_map, Function.comp_def] at e3
  simp [e3]
/-! ### what is drawn -/
def SG : Str := " !\"#$&'()*+,-./0123456789:;<=>?@ABCDEFGHIJKLMNOPQRSTUVWXYZ[\\]^_`" ++ "abcdefghijklmnopqrstuvwxyz{|}~\n"
theorem f_signs (s : S) : F_law_signs [] s = .ok (.str SG) s := by
  kernel_rfl
theorem sg_len : SG.length = 95 := by decide +kernel
def One (xs : List Str) : Prop := xs.length ≤ 5 ∧ ∀ x ∈ xs, x.length = 1
theorem sg_ix {r : Nat} (hr : r < 95) (s : S) : ∃ x : Str, ixD (.v (.str SG)) (.v (.int (r : Int))) s = .ok (.v (.str x)) s ∧ x.length = 1 := by
  have hl : r < SG.cps.toList.length := by rw [str_len, sg_len]; exact hr
  refine ⟨⟨#[SG.cps.toList[r]]⟩, ?_, rfl⟩
  have h : L2.atI SG.cps.toList (r : Int) = some SG.cps.toList[r] := L2.atI_nat (List.getElem?_eq_getElem hl)
  have h2 : SG.length ≤ sizeLine := by rw [sg_len]; decide
  simp [ixD, h, h2]
theorem all_scrap (b : Option Sl) : ∀ (ds : List D) (acc : List Str) (s : S), One acc → acc.length + ds.length ≤ 5 → s.cnt + ds.length ≤ 1000 →
    allR (fun acc s' => s'.cnt ≤ s.cnt + ds.length ∧ s'.objs = s.objs ∧ ∃ xs, acc = xs.map D.str ∧ One xs) (goC [some (.v .st), b, some (.v (.str SG)), none, none] (.nm 4) tYesM (den gl0 t_law_thing c_law_thing_e1).e ds (acc.map D.str) s)
  | [], acc, s, ha, hl, hc => by
    simp [goC]
    exact ⟨acc, rfl, ha⟩
  | d :: ds, acc, s, ha, hl, hc => by
    have slen := fun s => lenD_str s SG (by rw [sg_len]; decide)
    simp only [List.length_cons] at hl hc
    unfold goC
    simp only [Tg.bind, List.set_cons_succ, List.set_cons_zero, tYesM_a, Res.ok_bindN, if_true]
    refine allR_bindN ?_
    have he : (den gl0 t_law_thing c_law_thing_e1).e [some (.v .st), b, some (.v (.str SG)), none, some (.v d)] s = (drawF [.st, .int SG.length] s).bind fun r s => ixD (.v (.str SG)) (.v r) s := by
      simp [c_law_thing_e1, den, Bl.f, slen, Res.bind_assoc]
    rw [he, sg_len]
    refine allR_bind (all_draw (by decide) (by decide) (by omega) fun r hr => ?_)
    obtain ⟨y, ey, hy⟩ := sg_ix (r := r) (by omega) { s with cnt := s.cnt + 1 }
    have hA : acc.length < sizeLine := Nat.lt_of_lt_of_le (show acc.length < 6 by omega) (by decide)
    rw [ey]
    simp only [allR_ok, List.length_map, hA, if_true]
    have := all_scrap b ds (acc ++ [y]) { s with cnt := s.cnt + 1 } ⟨by simp; omega, fun x hx => (List.mem_append.mp hx).elim (ha.2 x) fun h => by rw [List.mem_singleton.mp h]; exact hy⟩ (by simp; omega) (by simp; omega)
    rw [List.map_append] at this
    refine allR_imp (fun a s' h => ⟨?_, h.2⟩) this
    have h1 := h.1
    simp only [List.length_cons] at h1 ⊢
    omega
theorem strs_of (xs : List Str) : strs? (xs.map D.str) = some xs := by
  induction xs with
  | nil => rfl
  | cons x xs ih => simp [strs?, ih]
theorem one_join {xs : List Str} (h : One xs) (s : S) : joinD "" [.v (.lst (xs.map D.str))] s = .ok (.v (.str (Txt.join "" xs))) s := by
  have hs : (xs.map (·.length)).sum = xs.length := by
    have h2 := h.2
    clear h
    induction xs with
    | nil => rfl
    | cons x xs ih =>
      have e : x.length = 1 := h2 x List.mem_cons_self
      have := ih fun y hy => h2 y (List.mem_cons_of_mem _ hy)
      simp only [List.map_cons, List.sum_cons, List.length_cons, e]
      omega
  have e0 : (Str.ofString "").length = 0 := by decide +kernel
  have z : (xs.map (·.length)).sum + xs.length * (Str.ofString "").length ≤ 16777216 := by rw [hs, e0]; have := h.1; omega
  show (match strs? (xs.map D.str) with | some (ys : List Str) => if (List.map (fun z : Str => z.length) ys).sum + ys.length * (Str.ofString "").length ≤ 16777216 then Res.ok (EV.v (.str (Txt.join (Str.ofString "") ys))) s else .fail | none => .fail) = _
  rw [strs_of]
  exact if_pos z
def Gd3 (d : D) : Prop := ∀ s, Gd2 s d
theorem gd_str (x : Str) : Gd3 (.str x) := fun s => ⟨by show some (x == x) = some true; simp, by rfl⟩
theorem gd_int (x : Int) : Gd3 (.int x) := fun s => ⟨by show some (x == x) = some true; simp, by rfl⟩
theorem gd_non : Gd3 .non := fun s => ⟨rfl, by rfl⟩
theorem gd_bl (b : Bool) : Gd3 (.bl b) := fun s => ⟨by show some (b == b) = some true; simp, by rfl⟩
theorem gd_tup (x : Str) (i : Int) : Gd3 (.tup [.str x, .int i]) := fun s => ⟨by
  show some ((x == x) && ((i == i) && true) && (2 == 2)) = some true
  simp, by rfl⟩
theorem gd_dct (x : Str) : Gd3 (.dct [(.inr x, .int 1)]) := fun s => ⟨by
  have e : valD [((.inr x : Key), D.int 1)] (.inr x) = some (.int 1) := by simp [valD]
  show (deqK (deq s 58) [((.inr x : Key), D.int 1)] [((.inr x : Key), D.int 1)]).map _ = some true
  have e2 : deqK (deq s 58) [((.inr x : Key), D.int 1)] [((.inr x : Key), D.int 1)] = some [(.inr x, true)] := by
    unfold deqK
    rw [e]
    rfl
  rw [e2]
  rfl, by rfl⟩
def things (x : Str) (i : Int) : List D := [.str x, .int i, .non, .tup [.str x, .int i], .int (-10 ^ 28 - i), .str "", .int 0, .bl true, .dct [(.inr x, .int 1)]]
theorem thing_k3 (b : Option Sl) (x : Str) (i : Int) (s : S) : (den gl0 t_law_thing c_law_thing_k3).s [some (.v .st), some (.v (.int i)), b, some (.v (.str x)), none] s =
    thenS (bindS [some (.v .st), some (.v (.int i)), b, some (.v (.str x)), none] (((drawF [.st, .int 9] s).bind fun d s => .ok (.v d) s).bind fun y s => ixD (.v (.lst (things x i))) y s) fun e s => match e with | .v d => .ok (.rt d) s | .b _ => .fail) sNil := by
  kernel_rfl
theorem thing_at (x : Str) (i : Int) {r : Nat} (hr : r < 9) (s : S) : ∃ d, ixD (.v (.lst (things x i))) (.v (.int (r : Int))) s = .ok (.v d) s ∧ Gd3 d := by
  have hl : r < (things x i).length := hr
  have h : L2.atI (things x i) (r : Int) = some (things x i)[r] := L2.atI_nat (List.getElem?_eq_getElem hl)
  refine ⟨(things x i)[r], by simp only [ixD, EV.get_v, h], ?_⟩
  have : ∀ d ∈ things x i, Gd3 d := by
    intro d hd
    simp only [things, List.mem_cons, List.not_mem_nil, or_false] at hd
    rcases hd with rfl | rfl | rfl | rfl | rfl | rfl | rfl | rfl | rfl
    · exact gd_str _
    · exact gd_int _
    · exact gd_non
    · exact gd_tup _ _
    · exact gd_int _
    · exact gd_str _
    · exact gd_int _
    · exact gd_bl _
    · exact gd_dct _
  exact this _ (List.getElem_mem hl)
theorem f_thing (s : S) (hc : s.cnt ≤ 900) : allR (fun d s' => s'.cnt ≤ s.cnt + 8 ∧ s'.objs = s.objs ∧ Gd3 d) (F_law_thing [.st] s) := by
  show allR _ (finish ((den gl0 t_law_thing c_law_thing).s [some (.v .st), none, none, none, none] s))
  refine all_fin ?_
  simp only [c_law_thing, c_law_thing_k1, c_law_thing_k2, den]
  rw [sSeq_a]
  refine all_then ?_
  simp [Res.bind_assoc]
  refine all_bindS (allR_bind (all_draw (by decide) (by decide) (by omega) fun r hr => ?_))
  simp [Bin.f, subD, intD, f_signs, wipeE, Res.bind_assoc]
  refine all_then (all_bindS (allR_bind (all_draw (by decide) (by decide) (by simp; omega) fun q hq => ?_)))
  have hr2 : ∀ s, rangeD [.v (.int (q : Int))] s = .ok (true, irange 0 q) s := by
    intro s
    have h1 : -(2 ^ 62) ≤ (q : Int) := Int.le_trans (show -(2 ^ 62) ≤ (0 : Int) by decide) (by omega)
    have h2 : (q : Int) < 2 ^ 62 := Int.lt_of_lt_of_le (show (q : Int) < 80 by omega) (by decide)
    unfold rangeD
    simp only [EV.get_v]
    rw [if_pos (And.intro h1 h2), Int.toNat_natCast]
  have hil : (irange 0 q).length = q := by simp [irange]
  simp [hr2]
  refine allR_bind (allR_imp ?_ (all_scrap _ (irange 0 q) [] _ ⟨by simp, by simp⟩ (by rw [hil]; simp; omega) (by rw [hil]; simp; omega)))
  rintro acc s1 ⟨h1, h2, xs, rfl, h3⟩
  rw [hil] at h1
  simp only [] at h1 h2
  simp [Sm.f, one_join h3]
  generalize Txt.join "" xs = x
  rw [thing_k3]
  refine all_then (all_bindS (allR_bind (allR_bind (all_draw (by decide) (by decide) (by omega) fun u hu => ?_))))
  simp only [allR_ok]
  obtain ⟨d, e1, e2⟩ := thing_at x (↑r - 1000000) (r := u) (by omega) { s1 with cnt := s1.cnt + 1 }
  rw [e1]
  simp
  exact ⟨by omega, h2, e2⟩
/-! ### the first round -/
theorem all_things (b c d e f g h : Option Sl) : ∀ (ds acc : List D) (s : S), acc.length + ds.length ≤ 16 → (∀ x ∈ acc, Gd3 x) → s.cnt + 8 * ds.length ≤ 900 →
    allR (fun r s' => s'.cnt ≤ s.cnt + 8 * ds.length ∧ s'.objs = s.objs ∧ r.length = acc.length + ds.length ∧ ∀ x ∈ r, Gd3 x) (goC [b, some (.v .st), c, d, e, f, g, h, none] (.nm 8) tYesM (den gl0 t_law c_law_e1).e ds acc s)
  | [], acc, s, hl, ha, hc => by
    simp [goC]
    exact ha
  | x :: ds, acc, s, hl, ha, hc => by
    simp only [List.length_cons] at hl hc
    unfold goC
    simp only [Tg.bind, List.set_cons_succ, List.set_cons_zero, tYesM_a, Res.ok_bindN, if_true]
    refine allR_bindN ?_
    have he : (den gl0 t_law c_law_e1).e [b, some (.v .st), c, d, e, f, g, h, some (.v x)] s = (F_law_thing [.st] s).bind fun d s => .ok (.v d) s := by
      simp [c_law_e1, den]
    rw [he]
    refine allR_bind (allR_imp ?_ (f_thing s (by omega)))
    rintro y s1 ⟨h1, h2, h3⟩
    have hA : acc.length < sizeLine := Nat.lt_of_lt_of_le (show acc.length < 17 by omega) (by decide)
    simp only [allR_ok, hA, if_true]
    refine allR_imp ?_ (all_things b c d e f g h ds (acc ++ [y]) s1 (by simp; omega) (fun z hz => (List.mem_append.mp hz).elim (ha z) fun q => by rw [List.mem_singleton.mp q]; exact h3) (by omega))
    rintro r s2 ⟨q1, q2, q3, q4⟩
    simp only [List.length_append, List.length_cons, List.length_nil] at q3 ⊢
    exact ⟨by omega, q2.trans h2, by omega, q4⟩
/-! ### objects -/
def IL (s : S) (T : List D) (k : Nat) : Prop := ∀ d ∈ T, ∃ i is, d = .obj i ∧ s.objs[i]? = some (.lst (List.map D.int is)) ∧ is.length ≤ k
def IT (s : S) (T : List D) (k : Nat) : Prop := ∀ d ∈ T, ∃ i is, d = .tup [.obj i] ∧ s.objs[i]? = some (.lst (List.map D.int is)) ∧ is.length ≤ k
def dA (n : Int) : AO := .dct [(.inr "a", .int n)]
def dB (n : Int) : AO := .dct [(.inr "a", .int n), (.inr "b", .lst [.int n])]
def ID (s : S) (T : List D) : Prop := ∀ d ∈ T, ∃ i n, d = .obj i ∧ (s.objs[i]? = some (dA n) ∨ s.objs[i]? = some (dB n))
theorem deq_int (s : S) (n : Nat) (i : Int) : deq s (n + 1) (.int i) (.int i) = some true := by
  show some (i == i) = some true
  simp
theorem deq_ints (s : S) (n : Nat) (is : List Int) : deqL (deq s (n + 1)) (is.map D.int) (is.map D.int) = some ((is.map D.int).map fun _ => true) := deqL_refl fun d hd => by
  obtain ⟨i, _, rfl⟩ := List.mem_map.mp hd
  exact deq_int s n i
theorem deq_objL {s : S} {i : Nat} {is : List Int} (h : s.objs[i]? = some (.lst (List.map D.int is))) (n : Nat) : deq s (n + 2) (.obj i) (.obj i) = some true := by
  have e : rdO s (.obj i) = .lst (is.map D.int) := by
    unfold rdO
    simp only [h]
  unfold deq
  simp only [e, if_true, deq_ints]
  simp
theorem gd_objL {s : S} {i : Nat} {is : List Int} (h : s.objs[i]? = some (.lst (List.map D.int is))) : Gd2 s (.obj i) := by
  refine ⟨deq_objL h 57, ?_⟩
  unfold isB tyS
  simp only [h]
  rfl
theorem gd_objT {s : S} {i : Nat} {is : List Int} (h : s.objs[i]? = some (.lst (List.map D.int is))) : Gd2 s (.tup [.obj i]) := by
  refine ⟨?_, by rfl⟩
  have e : rdO s (.tup [.obj i]) = .tup [.obj i] := rfl
  unfold deq
  simp only [e]
  have e2 : deqL (deq s 58) [.obj i] [.obj i] = some [true] := deqL_refl fun d hd => by rw [List.mem_singleton.mp hd]; exact deq_objL h 56
  rw [e2]
  rfl
theorem gd_objA {s : S} {i : Nat} {n : Int} (h : s.objs[i]? = some (dA n)) : Gd2 s (.obj i) := by
  have e : rdO s (.obj i) = .dct [(.inr "a", .int n)] := by
    unfold rdO
    simp only [h, dA]
  refine ⟨?_, ?_⟩
  · unfold deq
    simp only [e]
    have e2 : deqK (deq s 58) [((.inr "a" : Key), D.int n)] [((.inr "a" : Key), D.int n)] = some [(.inr "a", true)] := by
      unfold deqK
      have : valD [((.inr "a" : Key), D.int n)] (.inr "a") = some (.int n) := by rfl
      rw [this]
      show (match deq s 58 (.int n) (.int n) with | some b => some [((.inr "a" : Key), b)] | none => none) = _
      rw [deq_int]
    rw [e2]
    rfl
  · unfold isB tyS
    simp only [h, dA]
    rfl
theorem gd_objB {s : S} {i : Nat} {n : Int} (h : s.objs[i]? = some (dB n)) : Gd2 s (.obj i) := by
  have e : rdO s (.obj i) = .dct [(.inr "a", .int n), (.inr "b", .lst [.int n])] := by
    unfold rdO
    simp only [h, dB]
  refine ⟨?_, ?_⟩
  · unfold deq
    simp only [e]
    have l1 : deq s 58 (.lst [.int n]) (.lst [.int n]) = some true := by
      unfold deq
      have e3 : rdO s (.lst [.int n]) = .lst [.int n] := rfl
      have e4 : deqL (deq s 57) [.int n] [.int n] = some [true] := deqL_refl fun d hd => by rw [List.mem_singleton.mp hd]; exact deq_int s 56 n
      simp only [e3, if_true, e4]
      rfl
    have e2 : deqK (deq s 58) [((.inr "a" : Key), D.int n), (.inr "b", .lst [.int n])] [((.inr "a" : Key), D.int n), (.inr "b", .lst [.int n])] = some [(.inr "a", true), (.inr "b", true)] := by
      have v1 : valD [((.inr "a" : Key), D.int n), (.inr "b", .lst [.int n])] (.inr "a") = some (.int n) := by rfl
      have v2 : valD [((.inr "a" : Key), D.int n), (.inr "b", .lst [.int n])] (.inr "b") = some (.lst [.int n]) := by rfl
      have q : deqK (deq s 58) [((.inr "a" : Key), D.int n), (.inr "b", .lst [.int n])] [((.inr "b" : Key), D.lst [.int n])] = some [(.inr "b", true)] := by
        unfold deqK
        rw [v2]
        show (match deq s 58 (.lst [.int n]) (.lst [.int n]) with | some b => some [((.inr "b" : Key), b)] | none => none) = _
        rw [l1]
      unfold deqK
      rw [v1, q]
      show (match deq s 58 (.int n) (.int n) with | some b => some [((.inr "a" : Key), b), (.inr "b", true)] | none => none) = _
      rw [deq_int]
    rw [e2]
    rfl
  · unfold isB tyS
    simp only [h, dB]
    rfl
/-- one more object -/
theorem objs_more {s : S} {i : Nat} {o a : AO} (h : s.objs[i]? = some o) : (s.objs ++ [a])[i]? = some o := by
  rw [List.getElem?_append_left (List.getElem?_eq_some_iff.mp h).1]
  exact h
theorem objs_last (s : S) (a : AO) : (s.objs ++ [a])[s.objs.length]? = some a := by simp
theorem objs_set {s : S} {i j : Nat} {o a : AO} (h : s.objs[j]? = some o) (hi : i < s.objs.length) : (s.objs.set i a)[j]? = some (if i = j then a else o) := by
  by_cases e : i = j
  · subst e
    rw [List.getElem?_set_self hi, if_pos rfl]
  · rw [List.getElem?_set_ne e, if_neg e]
    exact h
theorem all_lists (b c d e f g h : Option Sl) : ∀ (ds acc : List D) (s : S), acc.length + ds.length ≤ 16 → IL s acc 1 → s.cnt + ds.length ≤ 900 →
    allR (fun r s' => s'.cnt ≤ s.cnt + ds.length ∧ r.length = acc.length + ds.length ∧ IL s' r 1) (goC [b, some (.v .st), c, d, e, f, g, h, none] (.nm 8) tYesM (den gl0 t_law c_law_e2).e ds acc s)
  | [], acc, s, hl, ha, hc => by
    simp [goC]
    exact ha
  | x :: ds, acc, s, hl, ha, hc => by
    simp only [List.length_cons] at hl hc
    unfold goC
    simp only [Tg.bind, List.set_cons_succ, List.set_cons_zero, tYesM_a, Res.ok_bindN, if_true]
    refine allR_bindN ?_
    have z1 : 1 ≤ sizeLine := by decide
    have he : (den gl0 t_law c_law_e2).e [b, some (.v .st), c, d, e, f, g, h, some (.v x)] s = (drawF [.st, .int 9] s).bind fun d s => .ok (.v (.obj s.objs.length)) { s with objs := s.objs ++ [.lst [d]] } := by
      simp [c_law_e2, den, mNewL, Res.bind_assoc, z1]
    rw [he]
    refine allR_bind (all_draw (by decide) (by decide) (by omega) fun r hr => ?_)
    have hA : acc.length < sizeLine := Nat.lt_of_lt_of_le (show acc.length < 17 by omega) (by decide)
    simp only [allR_ok, hA, if_true]
    refine allR_imp ?_ (all_lists b c d e f g h ds (acc ++ [.obj s.objs.length]) { cnt := s.cnt + 1, objs := s.objs ++ [.lst [.int (r : Int)]] } (by simp; omega) (fun z hz => ?_) (by simp; omega))
    · rintro r s2 ⟨q1, q2, q3⟩
      simp only [List.length_append, List.length_cons, List.length_nil] at q1 q2 ⊢
      exact ⟨by omega, by omega, q3⟩
    · rcases List.mem_append.mp hz with q | q
      · obtain ⟨i, is, e1, e2, e3⟩ := ha z q
        exact ⟨i, is, e1, objs_more e2, e3⟩
      · rw [List.mem_singleton.mp q]
        exact ⟨_, [(r : Int)], rfl, objs_last s _, by simp⟩
theorem all_inner (b c d e f g h : Option Sl) : ∀ (ds acc : List D) (s : S), acc.length + ds.length ≤ 16 → IT s acc 1 → s.cnt + ds.length ≤ 900 →
    allR (fun r s' => s'.cnt ≤ s.cnt + ds.length ∧ r.length = acc.length + ds.length ∧ IT s' r 1) (goC [b, some (.v .st), c, d, e, f, g, h, none] (.nm 8) tYesM (den gl0 t_law c_law_e4).e ds acc s)
  | [], acc, s, hl, ha, hc => by
    simp [goC]
    exact ha
  | x :: ds, acc, s, hl, ha, hc => by
    simp only [List.length_cons] at hl hc
    unfold goC
    simp only [Tg.bind, List.set_cons_succ, List.set_cons_zero, tYesM_a, Res.ok_bindN, if_true]
    refine allR_bindN ?_
    have z1 : 1 ≤ sizeLine := by decide
    have he : (den gl0 t_law c_law_e4).e [b, some (.v .st), c, d, e, f, g, h, some (.v x)] s = (drawF [.st, .int 9] s).bind fun d s => .ok (.v (.tup [.obj s.objs.length])) { s with objs := s.objs ++ [.lst [d]] } := by
      simp [c_law_e4, den, mNewL, Res.bind_assoc, z1]
    rw [he]
    refine allR_bind (all_draw (by decide) (by decide) (by omega) fun r hr => ?_)
    have hA : acc.length < sizeLine := Nat.lt_of_lt_of_le (show acc.length < 17 by omega) (by decide)
    simp only [allR_ok, hA, if_true]
    refine allR_imp ?_ (all_inner b c d e f g h ds (acc ++ [.tup [.obj s.objs.length]]) { cnt := s.cnt + 1, objs := s.objs ++ [.lst [.int (r : Int)]] } (by simp; omega) (fun z hz => ?_) (by simp; omega))
    · rintro r s2 ⟨q1, q2, q3⟩
      simp only [List.length_append, List.length_cons, List.length_nil] at q1 q2 ⊢
      exact ⟨by omega, by omega, q3⟩
    · rcases List.mem_append.mp hz with q | q
      · obtain ⟨i, is, e1, e2, e3⟩ := ha z q
        exact ⟨i, is, e1, objs_more e2, e3⟩
      · rw [List.mem_singleton.mp q]
        exact ⟨_, [(r : Int)], rfl, objs_last s _, by simp⟩
theorem all_dicts (b c d e f g h : Option Sl) : ∀ (ds acc : List D) (s : S), acc.length + ds.length ≤ 16 → ID s acc → s.cnt + ds.length ≤ 900 →
    allR (fun r s' => s'.cnt ≤ s.cnt + ds.length ∧ r.length = acc.length + ds.length ∧ ID s' r) (goC [b, some (.v .st), c, d, e, f, g, h, none] (.nm 8) tYesM (den gl0 t_law c_law_e6).e ds acc s)
  | [], acc, s, hl, ha, hc => by
    simp [goC]
    exact ha
  | x :: ds, acc, s, hl, ha, hc => by
    simp only [List.length_cons] at hl hc
    unfold goC
    simp only [Tg.bind, List.set_cons_succ, List.set_cons_zero, tYesM_a, Res.ok_bindN, if_true]
    refine allR_bindN ?_
    have he : allR (fun a s' => a = .v (.obj s.objs.length) ∧ s'.cnt = s.cnt + 1 ∧ ∃ r : Nat, s'.objs = s.objs ++ [dA (r : Int)]) ((den gl0 t_law c_law_e6).e [b, some (.v .st), c, d, e, f, g, h, some (.v x)] s) := by
      simp only [c_law_e6, den, mNewD]
      refine allR_bindN ?_
      simp [Res.bind_assoc]
      refine allR_bind (all_draw (by decide) (by decide) (by omega) fun r hr => ?_)
      simp [pairsD, keyD]
      exact ⟨r, rfl⟩
    refine allR_imp ?_ he
    rintro a s1 ⟨rfl, h1, r, h2⟩
    have hA : acc.length < sizeLine := Nat.lt_of_lt_of_le (show acc.length < 17 by omega) (by decide)
    simp only [hA, if_true]
    refine allR_imp ?_ (all_dicts b c d e f g h ds (acc ++ [.obj s.objs.length]) s1 (by simp; omega) (fun z hz => ?_) (by omega))
    · rintro r s2 ⟨q1, q2, q3⟩
      simp only [List.length_append, List.length_cons, List.length_nil] at q1 q2 ⊢
      exact ⟨by omega, by omega, q3⟩
    · rcases List.mem_append.mp hz with q | q
      · obtain ⟨i, n, e1, e2⟩ := ha z q
        exact ⟨i, n, e1, by rw [h2]; exact e2.imp objs_more objs_more⟩
      · rw [List.mem_singleton.mp q]
        exact ⟨_, (r : Int), rfl, .inl (by rw [h2]; exact objs_last s _)⟩
/-! ### the loops -/
theorem app_lists (a b c e f g h : Option Sl) (T : List D) : ∀ (ds : List D) (x : Option Sl) (s : S) (k : Nat), (∀ d ∈ ds, d ∈ T) → IL s T k → s.cnt + ds.length ≤ 900 → k + ds.length ≤ 100 →
    allR (fun o s' => ∃ y, o = .nx [a, some (.v .st), b, c, e, y, f, g, h] ∧ s'.cnt ≤ s.cnt + ds.length ∧ IL s' T 100) (goF (.nm 5) (den gl0 t_law c_law_l3).s ds [a, some (.v .st), b, c, e, x, f, g, h] s)
  | [], x, s, k, hm, hi, hc, hk => by
    simp only [goF, allR_ok]
    exact ⟨x, rfl, by simp, fun d hd => by obtain ⟨i, is, e1, e2, e3⟩ := hi d hd; exact ⟨i, is, e1, e2, by simp at hk; omega⟩⟩
  | d :: ds, x, s, k, hm, hi, hc, hk => by
    simp only [List.length_cons] at hc hk
    rw [goF_cons _ _ _ _ _ [a, some (.v .st), b, c, e, some (.v d), f, g, h] _ rfl]
    refine all_turn ?_
    obtain ⟨i, is, rfl, e2, e3⟩ := hi d (hm d List.mem_cons_self)
    simp only [c_law_l3, den]
    rw [sSeq_a]
    refine all_then ?_
    simp [mAppO, e2, Res.bind_assoc]
    refine all_bindS (allR_bind (all_draw (by decide) (by decide) (by omega) fun r hr => ?_))
    have hz : is.length < sizeLine := Nat.lt_of_lt_of_le (show is.length < 101 by omega) (by decide)
    simp [e2, hz]
    have hil : i < s.objs.length := (List.getElem?_eq_some_iff.mp e2).1
    have hi' : IL { cnt := s.cnt + 1, objs := s.objs.set i (.lst (List.map D.int is ++ [.int (r : Int)])) } T (k + 1) := by
      intro d hd
      obtain ⟨j, js, q1, q2, q3⟩ := hi d hd
      refine ⟨j, if i = j then is ++ [(r : Int)] else js, q1, ?_, ?_⟩
      · rw [objs_set q2 hil]
        by_cases hj : i = j
        · simp [hj]
        · simp [hj]
      · by_cases hj : i = j
        · simp [hj]; omega
        · simp [hj]; omega
    refine allR_imp ?_ (app_lists a b c e f g h T ds (some (.v (.obj i))) { cnt := s.cnt + 1, objs := s.objs.set i (.lst (List.map D.int is ++ [.int (r : Int)])) } (k + 1) (fun d hd => hm d (List.mem_cons_of_mem _ hd)) hi' (by simp; omega) (by omega))
    rintro o s2 ⟨y, q1, q2, q3⟩
    exact ⟨⟨y, q1⟩, by simp at q2; omega, q3⟩
theorem app_inner (a b c e f g h : Option Sl) (T : List D) : ∀ (ds : List D) (x : Option Sl) (s : S) (k : Nat), (∀ d ∈ ds, d ∈ T) → IT s T k → k + ds.length ≤ 100 →
    allR (fun o s' => ∃ y, o = .nx [a, some (.v .st), b, c, e, y, f, g, h] ∧ s'.cnt = s.cnt ∧ IT s' T 100) (goF (.nm 5) (den gl0 t_law c_law_l5).s ds [a, some (.v .st), b, c, e, x, f, g, h] s)
  | [], x, s, k, hm, hi, hk => by
    simp only [goF, allR_ok]
    exact ⟨x, rfl, trivial, fun d hd => by obtain ⟨i, is, e1, e2, e3⟩ := hi d hd; exact ⟨i, is, e1, e2, by simp at hk; omega⟩⟩
  | d :: ds, x, s, k, hm, hi, hk => by
    simp only [List.length_cons] at hk
    rw [goF_cons _ _ _ _ _ [a, some (.v .st), b, c, e, some (.v d), f, g, h] _ rfl]
    refine all_turn ?_
    obtain ⟨i, is, rfl, e2, e3⟩ := hi d (hm d List.mem_cons_self)
    simp only [c_law_l5, den]
    rw [sSeq_a]
    refine all_then ?_
    have hz : is.length < sizeLine := Nat.lt_of_lt_of_le (show is.length < 101 by omega) (by decide)
    have hx : ixD (.v (.tup [.obj i])) (.v (.int 0)) s = .ok (.v (.obj i)) s := by rfl
    simp [mAppO, e2, hx, hz]
    have hil : i < s.objs.length := (List.getElem?_eq_some_iff.mp e2).1
    have hi' : IT { cnt := s.cnt, objs := s.objs.set i (.lst (List.map D.int is ++ [.int 1])) } T (k + 1) := by
      intro d hd
      obtain ⟨j, js, q1, q2, q3⟩ := hi d hd
      refine ⟨j, if i = j then is ++ [1] else js, q1, ?_, ?_⟩
      · rw [objs_set q2 hil]
        by_cases hj : i = j
        · simp [hj]
        · simp [hj]
      · by_cases hj : i = j
        · simp [hj]; omega
        · simp [hj]; omega
    refine allR_imp ?_ (app_inner a b c e f g h T ds (some (.v (.tup [.obj i]))) { cnt := s.cnt, objs := s.objs.set i (.lst (List.map D.int is ++ [.int 1])) } (k + 1) (fun d hd => hm d (List.mem_cons_of_mem _ hd)) hi' (by omega))
    rintro o s2 ⟨y, q1, q2, q3⟩
    exact ⟨⟨y, q1⟩, q2, q3⟩
theorem app_dicts (a b c e f g h : Option Sl) (T : List D) : ∀ (ds : List D) (x : Option Sl) (s : S), (∀ d ∈ ds, d ∈ T) → ID s T →
    allR (fun o s' => ∃ y, o = .nx [a, some (.v .st), b, c, e, y, f, g, h] ∧ ID s' T) (goF (.nm 5) (den gl0 t_law c_law_l7).s ds [a, some (.v .st), b, c, e, x, f, g, h] s)
  | [], x, s, hm, hi => by
    simp only [goF, allR_ok]
    exact ⟨x, rfl, hi⟩
  | d :: ds, x, s, hm, hi => by
    rw [goF_cons _ _ _ _ _ [a, some (.v .st), b, c, e, some (.v d), f, g, h] _ rfl]
    refine all_turn ?_
    obtain ⟨i, n, rfl, e2⟩ := hi d (hm d List.mem_cons_self)
    have hz : 1 ≤ sizeLine := by decide
    have hz1 : 1 < sizeLine := by decide
    have hz2 : 2 < sizeLine := by decide
    have key : (den gl0 t_law c_law_l7).s [a, some (.v .st), b, c, e, some (.v (.obj i)), f, g, h] s = .ok (.nx [a, some (.v .st), b, c, e, some (.v (.obj i)), f, g, h]) { s with objs := s.objs.set i (dB n) } := by
      simp only [c_law_l7, den]
      rw [sSeq_a]
      have k1 : keyD (.str "a") = some (.inr "a") := rfl
      have k2 : keyD (.str "b") = some (.inr "b") := rfl
      rcases e2 with e2 | e2
      · have hr : rdO s (.obj i) = .dct [(.inr "a", .int n)] := by
          unfold rdO
          simp only [e2, dA]
        have v1 : valD [((.inr "a" : Key), D.int n)] (.inr "a") = some (.int n) := by rfl
        have hx : ixdD (.v (.obj i)) (.v (.str "a")) s = .ok (.v (.int n)) s := by
          unfold ixdD
          simp only [EV.get_v, hr, k1, v1]
        have hp : putD [((.inr "a" : Key), D.int n)] (.inr "b") (.lst [.int n]) = [(.inr "a", .int n), (.inr "b", .lst [.int n])] := by rfl
        simp [sSetO, hx, hz, k2, e2, dA, hz1, hp]
        rfl
      · have hr : rdO s (.obj i) = .dct [(.inr "a", .int n), (.inr "b", .lst [.int n])] := by
          unfold rdO
          simp only [e2, dB]
        have v1 : valD [((.inr "a" : Key), D.int n), (.inr "b", .lst [.int n])] (.inr "a") = some (.int n) := by rfl
        have hx : ixdD (.v (.obj i)) (.v (.str "a")) s = .ok (.v (.int n)) s := by
          unfold ixdD
          simp only [EV.get_v, hr, k1, v1]
        have hp : putD [((.inr "a" : Key), D.int n), (.inr "b", .lst [.int n])] (.inr "b") (.lst [.int n]) = [(.inr "a", .int n), (.inr "b", .lst [.int n])] := by rfl
        simp [sSetO, hx, hz, k2, e2, dB, hz2, hp]
    rw [key]
    simp only [allR_ok]
    refine ⟨_, rfl, ?_⟩
    have hil : i < s.objs.length := e2.elim (fun e2 => (List.getElem?_eq_some_iff.mp e2).1) fun e2 => (List.getElem?_eq_some_iff.mp e2).1
    refine app_dicts a b c e f g h T ds (some (.v (.obj i))) { s with objs := s.objs.set i (dB n) } (fun d hd => hm d (List.mem_cons_of_mem _ hd)) ?_
    intro d hd
    obtain ⟨j, m, q1, q2⟩ := hi d hd
    by_cases hj : i = j
    · subst hj
      exact ⟨i, n, q1, .inr (by rw [List.getElem?_set_self hil])⟩
    · exact ⟨j, m, q1, by rw [List.getElem?_set_ne hj]; exact q2⟩
/-! ### the law -/
theorem sixteen {T : List D} (h : T.length = 16) : ∃ d0 d1 d2 d3 d4 d5 d6 d7 d8 d9 d10 d11 d12 d13 d14 d15, T = [d0, d1, d2, d3, d4, d5, d6, d7, d8, d9, d10, d11, d12, d13, d14, d15] := by
  match T, h with
  | [d0, d1, d2, d3, d4, d5, d6, d7, d8, d9, d10, d11, d12, d13, d14, d15], _ => exact ⟨d0, d1, d2, d3, d4, d5, d6, d7, d8, d9, d10, d11, d12, d13, d14, d15, rfl⟩
theorem f_keepsT {T : List D} (h : T.length = 16) : ∃ M, (∀ s, F_law_all [.lst T] s = .ok (.lst M) s) ∧ (∀ s, F_law_named [.lst T] s = .ok (.lst M) s) ∧ ∀ s, (∀ d ∈ T, Gd2 s d) → F_law_keeps [.lst M, .lst T] s = .ok (.bl true) s := by
  obtain ⟨d0, d1, d2, d3, d4, d5, d6, d7, d8, d9, d10, d11, d12, d13, d14, d15, rfl⟩ := sixteen h
  exact ⟨_, fun s => f_all d0 d1 d2 d3 d4 d5 d6 d7 d8 d9 d10 d11 d12 d13 d14 d15 s, fun s => f_named d0 d1 d2 d3 d4 d5 d6 d7 d8 d9 d10 d11 d12 d13 d14 d15 s, fun s hg => f_keeps d0 d1 d2 d3 d4 d5 d6 d7 d8 d9 d10 d11 d12 d13 d14 d15 s hg⟩
theorem rng (n : Nat) (s : S) (h : n ≤ 100) : rangeD [.v (.int (n : Int))] s = .ok (true, irange 0 n) s := by
  have h1 : -(2 ^ 62) ≤ (n : Int) := Int.le_trans (show -(2 ^ 62) ≤ (0 : Int) by decide) (by omega)
  have h2 : (n : Int) < 2 ^ 62 := Int.lt_of_lt_of_le (show (n : Int) < 101 by omega) (by decide)
  unfold rangeD
  simp only [EV.get_v]
  rw [if_pos (And.intro h1 h2), Int.toNat_natCast]
theorem irl (n : Nat) : (irange 0 n).length = n := by simp [irange]
theorem ix0 (x y : D) (s : S) : ixD (.v (.lst [x, y])) (.v (.int 0)) s = .ok (.v x) s := by rfl
theorem ix1 (x y : D) (s : S) : ixD (.v (.lst [x, y])) (.v (.int 1)) s = .ok (.v y) s := by rfl
theorem good_k10 (a b c d e f : Option Sl) (s : S) (hc : s.cnt ≤ 800) : goodR ((den gl0 t_law c_law_k10).s [a, some (.v .st), b, c, d, e, f, none, none] s) := by
  have z2 : 2 ≤ sizeLine := by decide
  simp only [c_law_k10, c_law_k11, c_law_k12, c_law_k13, den]
  rw [sSeq_a]
  refine good_then ?_
  have hr := rng 16 s (by decide)
  simp at hr
  simp [hr, wipeE]
  refine all_bindS (allR_bind (allR_imp ?_ (all_dicts _ _ _ _ _ _ _ (irange 0 16) [] s (by rw [irl]; simp) (fun _ z => nomatch z) (by rw [irl]; omega))))
  rintro T s1 ⟨h1, h2, h3⟩
  simp only [irl, List.length_nil, Nat.zero_add] at h2
  obtain ⟨M, m1, m2, m3⟩ := f_keepsT h2
  simp [endsIn, m1, m2, z2]
  refine good_then ?_
  refine allR_imp ?_ (app_dicts _ _ _ _ _ _ _ T T _ s1 (fun _ z => z) h3)
  rintro o s2 ⟨y, rfl, h4⟩
  have hk := m3 s2 fun d hd => by
    obtain ⟨i, n, rfl, q⟩ := h4 d hd
    exact q.elim gd_objA gd_objB
  simp [endsIn, ix0, ix1, hk]
theorem good_k6 (a b c d e f : Option Sl) (s : S) (hc : s.cnt ≤ 700) : goodR ((den gl0 t_law c_law_k6).s [a, some (.v .st), b, c, d, e, f, none, none] s) := by
  have z2 : 2 ≤ sizeLine := by decide
  simp only [c_law_k6, c_law_k7, c_law_k8, c_law_k9, den]
  rw [sSeq_a]
  refine good_then ?_
  have hr := rng 16 s (by decide)
  simp at hr
  simp [hr, wipeE]
  refine all_bindS (allR_bind (allR_imp ?_ (all_inner _ _ _ _ _ _ _ (irange 0 16) [] s (by rw [irl]; simp) (fun _ z => nomatch z) (by rw [irl]; omega))))
  rintro T s1 ⟨h1, h2, h3⟩
  simp only [irl, List.length_nil, Nat.zero_add] at h1 h2
  obtain ⟨M, m1, m2, m3⟩ := f_keepsT h2
  simp [endsIn, m1, m2, z2]
  refine good_then ?_
  refine allR_imp ?_ (app_inner _ _ _ _ _ _ _ T T _ s1 1 (fun _ z => z) h3 (by omega))
  rintro o s2 ⟨y, rfl, h4, h5⟩
  have hk := m3 s2 fun d hd => by
    obtain ⟨i, is, rfl, q, _⟩ := h5 d hd
    exact gd_objT q
  simp [endsIn, ix0, ix1, hk]
  exact good_k10 _ _ _ _ _ _ s2 (by omega)
theorem good_k2 (a b c d e f : Option Sl) (s : S) (hc : s.cnt ≤ 600) : goodR ((den gl0 t_law c_law_k2).s [a, some (.v .st), b, none, d, e, none, none, none] s) := by
  have z2 : 2 ≤ sizeLine := by decide
  simp only [c_law_k2, c_law_k3, c_law_k4, c_law_k5, den]
  rw [sSeq_a]
  refine good_then ?_
  have hr := rng 16 s (by decide)
  simp at hr
  simp [hr, wipeE]
  refine all_bindS (allR_bind (allR_imp ?_ (all_lists _ _ _ _ _ _ _ (irange 0 16) [] s (by rw [irl]; simp) (fun _ z => nomatch z) (by rw [irl]; omega))))
  rintro T s1 ⟨h1, h2, h3⟩
  simp only [irl, List.length_nil, Nat.zero_add] at h1 h2
  obtain ⟨M, m1, m2, m3⟩ := f_keepsT h2
  simp [endsIn, m1, m2, z2]
  refine good_then ?_
  refine allR_imp ?_ (app_lists _ _ _ _ _ _ _ T T _ s1 1 (fun _ z => z) h3 (by omega) (by omega))
  rintro o s2 ⟨y, rfl, h4, h5⟩
  have hk := m3 s2 fun d hd => by
    obtain ⟨i, is, rfl, q, _⟩ := h5 d hd
    exact gd_objL q
  simp [endsIn, ix0, ix1, hk]
  exact good_k6 _ _ _ _ _ _ s2 (by omega)
theorem good_law : GoodL gl0 t_law c_law N_law.length := by
  refine ⟨?_⟩
  have e0 : env0 N_law.length = [none, some (.v .st), none, none, none, none, none, none, none] := rfl
  rw [e0]
  simp only [c_law, c_law_k1, den]
  rw [sSeq_a]
  refine good_then ?_
  have hr := rng 16 ⟨[], 0⟩ (by decide)
  simp at hr
  simp [hr, wipeE]
  refine all_bindS (allR_bind (allR_imp ?_ (all_things _ _ _ _ _ _ _ (irange 0 16) [] ⟨[], 0⟩ (by rw [irl]; simp) (fun _ z => nomatch z) (by rw [irl]; simp))))
  rintro T s1 ⟨h1, h2, h3, h4⟩
  simp only [irl, List.length_nil, Nat.zero_add] at h1 h3
  obtain ⟨M, m1, m2, m3⟩ := f_keepsT h3
  have hk := m3 s1 fun d hd => h4 d hd s1
  simp [endsIn, m1, m2, hk]
  exact good_k2 _ _ none _ _ none s1 (by simp at h1; omega)
end SR

namespace SR
open PySem PySem.Spec PyProof.Rows
open L2 hiding St
/-! ### the head: facts by names, the run -/
def d_law_start : He.DefD := ⟨("_law_start", none), "_law_start", "_law_start", defArgs (topS 23), defBody (topS 23), defScope (topS 23), [], []⟩
def d_law_draw : He.DefD := ⟨("_law_draw", none), "_law_draw", "_law_draw", defArgs (topS 24), defBody (topS 24), defScope (topS 24), [], []⟩
def d_law_signs : He.DefD := ⟨("_law_signs", none), "_law_signs", "_law_signs", defArgs (topS 25), defBody (topS 25), defScope (topS 25), [], []⟩
def d_law_thing : He.DefD := ⟨("_law_thing", none), "_law_thing", "_law_thing", defArgs (topS 27), defBody (topS 27), defScope (topS 27), [], []⟩
def d_law_sorts : He.DefD := ⟨("_law_sorts", none), "_law_sorts", "_law_sorts", defArgs (topS 26), defBody (topS 26), defScope (topS 26), [], []⟩
def d_law_keeps : He.DefD := ⟨("_law_keeps", none), "_law_keeps", "_law_keeps", defArgs (topS 30), defBody (topS 30), defScope (topS 30), [], []⟩
def d_law_all : He.DefD := ⟨("_law_all", none), "_law_all", "_law_all", defArgs (topS 28), defBody (topS 28), defScope (topS 28), [], []⟩
def d_law_named : He.DefD := ⟨("_law_named", none), "_law_named", "_law_named", defArgs (topS 29), defBody (topS 29), defScope (topS 29), [], []⟩
def d_law : He.DefD := ⟨("law", none), "law", "law", defArgs (topS 31), defBody (topS 31), defScope (topS 31), [], []⟩
abbrev i_BadArrow : Stmt := clsS 6 0
def N_BadArrow : List Str := ["self", "value"]
theorem sc_BadArrow : FnScope N_BadArrow N_BadArrow (defScope i_BadArrow) := ⟨rfl, rfl, rfl, by decide +kernel, by decide +kernel, by decide +kernel, by decide +kernel⟩
theorem ck_BadArrow : chkI ⟨N_BadArrow, defScope i_BadArrow, fun _ => true, [], []⟩ "RestError" ["value"] (defBody i_BadArrow) = true := by decide +kernel
def d_BadArrow : He.DefD := ⟨("BadArrow", some "__init__"), "__init__", "BadArrow.__init__", defArgs i_BadArrow, defBody i_BadArrow, defScope i_BadArrow, [], []⟩
abbrev i_BadTop : Stmt := clsS 5 0
def N_BadTop : List Str := ["self", "value"]
theorem sc_BadTop : FnScope N_BadTop N_BadTop (defScope i_BadTop) := ⟨rfl, rfl, rfl, by decide +kernel, by decide +kernel, by decide +kernel, by decide +kernel⟩
theorem ck_BadTop : chkI ⟨N_BadTop, defScope i_BadTop, fun _ => true, [], []⟩ "RestError" ["value"] (defBody i_BadTop) = true := by decide +kernel
def d_BadTop : He.DefD := ⟨("BadTop", some "__init__"), "__init__", "BadTop.__init__", defArgs i_BadTop, defBody i_BadTop, defScope i_BadTop, [], []⟩
abbrev i_BadCount : Stmt := clsS 4 0
def N_BadCount : List Str := ["self", "count"]
theorem sc_BadCount : FnScope N_BadCount N_BadCount (defScope i_BadCount) := ⟨rfl, rfl, rfl, by decide +kernel, by decide +kernel, by decide +kernel, by decide +kernel⟩
theorem ck_BadCount : chkI ⟨N_BadCount, defScope i_BadCount, fun _ => true, [], []⟩ "RestError" ["count"] (defBody i_BadCount) = true := by decide +kernel
def d_BadCount : He.DefD := ⟨("BadCount", some "__init__"), "__init__", "BadCount.__init__", defArgs i_BadCount, defBody i_BadCount, defScope i_BadCount, [], []⟩
abbrev i_UnknownName : Stmt := clsS 3 0
def N_UnknownName : List Str := ["self", "name"]
theorem sc_UnknownName : FnScope N_UnknownName N_UnknownName (defScope i_UnknownName) := ⟨rfl, rfl, rfl, by decide +kernel, by decide +kernel, by decide +kernel, by decide +kernel⟩
theorem ck_UnknownName : chkI ⟨N_UnknownName, defScope i_UnknownName, fun _ => true, [], []⟩ "RestError" ["name"] (defBody i_UnknownName) = true := by decide +kernel
def d_UnknownName : He.DefD := ⟨("UnknownName", some "__init__"), "__init__", "UnknownName.__init__", defArgs i_UnknownName, defBody i_UnknownName, defScope i_UnknownName, [], []⟩
abbrev i_BadName : Stmt := clsS 2 0
def N_BadName : List Str := ["self", "name"]
theorem sc_BadName : FnScope N_BadName N_BadName (defScope i_BadName) := ⟨rfl, rfl, rfl, by decide +kernel, by decide +kernel, by decide +kernel, by decide +kernel⟩
theorem ck_BadName : chkI ⟨N_BadName, defScope i_BadName, fun _ => true, [], []⟩ "RestError" ["name"] (defBody i_BadName) = true := by decide +kernel
def d_BadName : He.DefD := ⟨("BadName", some "__init__"), "__init__", "BadName.__init__", defArgs i_BadName, defBody i_BadName, defScope i_BadName, [], []⟩
abbrev i_BadFact : Stmt := clsS 12 0
def N_BadFact : List Str := ["self", "value"]
theorem sc_BadFact : FnScope N_BadFact N_BadFact (defScope i_BadFact) := ⟨rfl, rfl, rfl, by decide +kernel, by decide +kernel, by decide +kernel, by decide +kernel⟩
theorem ck_BadFact : chkI ⟨N_BadFact, defScope i_BadFact, fun _ => true, [], []⟩ "RestError" ["value"] (defBody i_BadFact) = true := by decide +kernel
def d_BadFact : He.DefD := ⟨("BadFact", some "__init__"), "__init__", "BadFact.__init__", defArgs i_BadFact, defBody i_BadFact, defScope i_BadFact, [], []⟩
abbrev i_BadSet : Stmt := clsS 11 0
def N_BadSet : List Str := ["self", "value"]
theorem sc_BadSet : FnScope N_BadSet N_BadSet (defScope i_BadSet) := ⟨rfl, rfl, rfl, by decide +kernel, by decide +kernel, by decide +kernel, by decide +kernel⟩
theorem ck_BadSet : chkI ⟨N_BadSet, defScope i_BadSet, fun _ => true, [], []⟩ "RestError" ["value"] (defBody i_BadSet) = true := by decide +kernel
def d_BadSet : He.DefD := ⟨("BadSet", some "__init__"), "__init__", "BadSet.__init__", defArgs i_BadSet, defBody i_BadSet, defScope i_BadSet, [], []⟩
abbrev i_BadRing : Stmt := clsS 10 0
def N_BadRing : List Str := ["self", "value"]
theorem sc_BadRing : FnScope N_BadRing N_BadRing (defScope i_BadRing) := ⟨rfl, rfl, rfl, by decide +kernel, by decide +kernel, by decide +kernel, by decide +kernel⟩
theorem ck_BadRing : chkI ⟨N_BadRing, defScope i_BadRing, fun _ => true, [], []⟩ "RestError" ["value"] (defBody i_BadRing) = true := by decide +kernel
def d_BadRing : He.DefD := ⟨("BadRing", some "__init__"), "__init__", "BadRing.__init__", defArgs i_BadRing, defBody i_BadRing, defScope i_BadRing, [], []⟩
abbrev i_BadTable : Stmt := clsS 9 0
def N_BadTable : List Str := ["self", "name"]
theorem sc_BadTable : FnScope N_BadTable N_BadTable (defScope i_BadTable) := ⟨rfl, rfl, rfl, by decide +kernel, by decide +kernel, by decide +kernel, by decide +kernel⟩
theorem ck_BadTable : chkI ⟨N_BadTable, defScope i_BadTable, fun _ => true, [], []⟩ "RestError" ["name"] (defBody i_BadTable) = true := by decide +kernel
def d_BadTable : He.DefD := ⟨("BadTable", some "__init__"), "__init__", "BadTable.__init__", defArgs i_BadTable, defBody i_BadTable, defScope i_BadTable, [], []⟩
abbrev i_BadState : Stmt := clsS 8 0
def N_BadState : List Str := ["self", "value"]
theorem sc_BadState : FnScope N_BadState N_BadState (defScope i_BadState) := ⟨rfl, rfl, rfl, by decide +kernel, by decide +kernel, by decide +kernel, by decide +kernel⟩
theorem ck_BadState : chkI ⟨N_BadState, defScope i_BadState, fun _ => true, [], []⟩ "RestError" ["value"] (defBody i_BadState) = true := by decide +kernel
def d_BadState : He.DefD := ⟨("BadState", some "__init__"), "__init__", "BadState.__init__", defArgs i_BadState, defBody i_BadState, defScope i_BadState, [], []⟩
abbrev i_BadText : Stmt := clsS 7 0
def N_BadText : List Str := ["self", "text"]
theorem sc_BadText : FnScope N_BadText N_BadText (defScope i_BadText) := ⟨rfl, rfl, rfl, by decide +kernel, by decide +kernel, by decide +kernel, by decide +kernel⟩
theorem ck_BadText : chkI ⟨N_BadText, defScope i_BadText, fun _ => true, [], []⟩ "RestError" ["text"] (defBody i_BadText) = true := by decide +kernel
def d_BadText : He.DefD := ⟨("BadText", some "__init__"), "__init__", "BadText.__init__", defArgs i_BadText, defBody i_BadText, defScope i_BadText, [], []⟩
abbrev i_NoEven : Stmt := clsS 16 0
def N_NoEven : List Str := ["self"]
theorem sc_NoEven : FnScope N_NoEven N_NoEven (defScope i_NoEven) := ⟨rfl, rfl, rfl, by decide +kernel, by decide +kernel, by decide +kernel, by decide +kernel⟩
theorem ck_NoEven : chkI ⟨N_NoEven, defScope i_NoEven, fun _ => true, [], []⟩ "RestError" [] (defBody i_NoEven) = true := by decide +kernel
def d_NoEven : He.DefD := ⟨("NoEven", some "__init__"), "__init__", "NoEven.__init__", defArgs i_NoEven, defBody i_NoEven, defScope i_NoEven, [], []⟩
abbrev i_UnlikeParts : Stmt := clsS 20 0
def N_UnlikeParts : List Str := ["self", "names"]
theorem sc_UnlikeParts : FnScope N_UnlikeParts N_UnlikeParts (defScope i_UnlikeParts) := ⟨rfl, rfl, rfl, by decide +kernel, by decide +kernel, by decide +kernel, by decide +kernel⟩
theorem ck_UnlikeParts : chkI ⟨N_UnlikeParts, defScope i_UnlikeParts, fun _ => true, [], []⟩ "RestError" ["names"] (defBody i_UnlikeParts) = true := by decide +kernel
def d_UnlikeParts : He.DefD := ⟨("UnlikeParts", some "__init__"), "__init__", "UnlikeParts.__init__", defArgs i_UnlikeParts, defBody i_UnlikeParts, defScope i_UnlikeParts, [], []⟩
abbrev i_Clash : Stmt := clsS 19 0
def N_Clash : List Str := ["self", "value"]
theorem sc_Clash : FnScope N_Clash N_Clash (defScope i_Clash) := ⟨rfl, rfl, rfl, by decide +kernel, by decide +kernel, by decide +kernel, by decide +kernel⟩
theorem ck_Clash : chkI ⟨N_Clash, defScope i_Clash, fun _ => true, [], []⟩ "RestError" ["value"] (defBody i_Clash) = true := by decide +kernel
def d_Clash : He.DefD := ⟨("Clash", some "__init__"), "__init__", "Clash.__init__", defArgs i_Clash, defBody i_Clash, defScope i_Clash, [], []⟩
abbrev i_HasOdd : Stmt := clsS 15 0
def N_HasOdd : List Str := ["self", "value"]
theorem sc_HasOdd : FnScope N_HasOdd N_HasOdd (defScope i_HasOdd) := ⟨rfl, rfl, rfl, by decide +kernel, by decide +kernel, by decide +kernel, by decide +kernel⟩
theorem ck_HasOdd : chkI ⟨N_HasOdd, defScope i_HasOdd, fun _ => true, [], []⟩ "RestError" ["value"] (defBody i_HasOdd) = true := by decide +kernel
def d_HasOdd : He.DefD := ⟨("HasOdd", some "__init__"), "__init__", "HasOdd.__init__", defArgs i_HasOdd, defBody i_HasOdd, defScope i_HasOdd, [], []⟩
abbrev i_HasRing : Stmt := clsS 14 0
def N_HasRing : List Str := ["self", "value"]
theorem sc_HasRing : FnScope N_HasRing N_HasRing (defScope i_HasRing) := ⟨rfl, rfl, rfl, by decide +kernel, by decide +kernel, by decide +kernel, by decide +kernel⟩
theorem ck_HasRing : chkI ⟨N_HasRing, defScope i_HasRing, fun _ => true, [], []⟩ "RestError" ["value"] (defBody i_HasRing) = true := by decide +kernel
def d_HasRing : He.DefD := ⟨("HasRing", some "__init__"), "__init__", "HasRing.__init__", defArgs i_HasRing, defBody i_HasRing, defScope i_HasRing, [], []⟩
abbrev i_BadNumber : Stmt := clsS 13 0
def N_BadNumber : List Str := ["self", "value"]
theorem sc_BadNumber : FnScope N_BadNumber N_BadNumber (defScope i_BadNumber) := ⟨rfl, rfl, rfl, by decide +kernel, by decide +kernel, by decide +kernel, by decide +kernel⟩
theorem ck_BadNumber : chkI ⟨N_BadNumber, defScope i_BadNumber, fun _ => true, [], []⟩ "RestError" ["value"] (defBody i_BadNumber) = true := by decide +kernel
def d_BadNumber : He.DefD := ⟨("BadNumber", some "__init__"), "__init__", "BadNumber.__init__", defArgs i_BadNumber, defBody i_BadNumber, defScope i_BadNumber, [], []⟩
abbrev i_NothingToUndo : Stmt := clsS 21 0
def N_NothingToUndo : List Str := ["self"]
theorem sc_NothingToUndo : FnScope N_NothingToUndo N_NothingToUndo (defScope i_NothingToUndo) := ⟨rfl, rfl, rfl, by decide +kernel, by decide +kernel, by decide +kernel, by decide +kernel⟩
theorem ck_NothingToUndo : chkI ⟨N_NothingToUndo, defScope i_NothingToUndo, fun _ => true, [], []⟩ "RestError" [] (defBody i_NothingToUndo) = true := by decide +kernel
def d_NothingToUndo : He.DefD := ⟨("NothingToUndo", some "__init__"), "__init__", "NothingToUndo.__init__", defArgs i_NothingToUndo, defBody i_NothingToUndo, defScope i_NothingToUndo, [], []⟩
abbrev i_Settles : Stmt := clsS 18 0
def N_Settles : List Str := ["self"]
theorem sc_Settles : FnScope N_Settles N_Settles (defScope i_Settles) := ⟨rfl, rfl, rfl, by decide +kernel, by decide +kernel, by decide +kernel, by decide +kernel⟩
theorem ck_Settles : chkI ⟨N_Settles, defScope i_Settles, fun _ => true, [], []⟩ "RestError" [] (defBody i_Settles) = true := by decide +kernel
def d_Settles : He.DefD := ⟨("Settles", some "__init__"), "__init__", "Settles.__init__", defArgs i_Settles, defBody i_Settles, defScope i_Settles, [], []⟩
abbrev i_NoOdd : Stmt := clsS 17 0
def N_NoOdd : List Str := ["self"]
theorem sc_NoOdd : FnScope N_NoOdd N_NoOdd (defScope i_NoOdd) := ⟨rfl, rfl, rfl, by decide +kernel, by decide +kernel, by decide +kernel, by decide +kernel⟩
theorem ck_NoOdd : chkI ⟨N_NoOdd, defScope i_NoOdd, fun _ => true, [], []⟩ "RestError" [] (defBody i_NoOdd) = true := by decide +kernel
def d_NoOdd : He.DefD := ⟨("NoOdd", some "__init__"), "__init__", "NoOdd.__init__", defArgs i_NoOdd, defBody i_NoOdd, defScope i_NoOdd, [], []⟩
def ecs : ErrCs := [("BadArrow", ["value"]), ("BadTop", ["value"]), ("BadCount", ["count"]), ("UnknownName", ["name"]), ("BadName", ["name"]), ("BadFact", ["value"]), ("BadSet", ["value"]), ("BadRing", ["value"]), ("BadTable", ["name"]), ("BadState", ["value"]), ("BadText", ["text"]), ("NoEven", []), ("UnlikeParts", ["names"]), ("Clash", ["value"]), ("HasOdd", ["value"]), ("HasRing", ["value"]), ("BadNumber", ["value"]), ("NothingToUndo", []), ("Settles", []), ("NoOdd", [])]
def fnL : List He.DefD := [d_law_start, d_law_draw, d_law_signs, d_law_thing, d_law_sorts, d_law_keeps, d_law_all, d_law_named, d_law, d_BadArrow, d_BadTop, d_BadCount, d_UnknownName, d_BadName, d_BadFact, d_BadSet, d_BadRing, d_BadTable, d_BadState, d_BadText, d_NoEven, d_UnlikeParts, d_Clash, d_HasOdd, d_HasRing, d_BadNumber, d_NothingToUndo, d_Settles, d_NoOdd]
def faL : List He.Fa := [.glo "_law_start", .glo "_law_draw", .glo "_law_signs", .glo "_law_thing", .glo "_law_sorts", .glo "_law_keeps", .glo "_law_all", .glo "_law_named", .glo "law", .free "len", .free "int", .free "abs", .free "list", .free "tuple", .free "isinstance", .free "range", .free "bool", .free "str", .free "dict", .free "ValueError", .glo "RestError", .glo "BadArrow", .glo "BadTop", .glo "BadCount", .glo "UnknownName", .glo "BadName", .glo "BadFact", .glo "BadSet", .glo "BadRing", .glo "BadTable", .glo "BadState", .glo "BadText", .glo "NoEven", .glo "UnlikeParts", .glo "Clash", .glo "HasOdd", .glo "HasRing", .glo "BadNumber", .glo "NothingToUndo", .glo "Settles", .glo "NoOdd"]
abbrev R : PySem.W.OpenRow := PySem.W.OpenLaw.row PySem.Challenge.rw_surerests_k02_errors
def exB : PySem.W.Frag → Bool := errB ecs
abbrev hk : PySem.W.Hook := hookE 6 faL fnL exB
def ob (s : PySem.W.SharedT) : He.AlD × Bool := obsE 6 faL fnL exB (HandSHeadRun.getT s)
theorem ob_eq (s : PySem.W.SharedT) : ob s = hk.obs s.abs := obsE_eq (HandSHeadRun.getT_eq s)
def looseL : List Str := ["RestError", "BadName", "UnknownName", "BadCount", "BadTop", "BadArrow", "BadText", "BadState", "BadTable", "BadRing", "BadSet", "BadFact", "BadNumber", "HasRing", "HasOdd", "NoEven", "NoOdd", "Settles", "Clash", "UnlikeParts", "NothingToUndo", "_law_start", "_law_draw", "_law_signs", "_law_sorts", "_law_thing", "_law_all", "_law_named", "_law_keeps"]
set_option maxHeartbeats 0 in
theorem run (w : World) : HandSHeadRun.RunEq R (PySem.W.view R.prog [31]) hk ob 20000 looseL w := by
  intro os
  kernel_rfl
theorem facts {P : Program} {w : World} {K : PySem.W.Frag} {h : Heap} {mg : Str → Option Value} {f : Addr} (X : K.In h) (Gn : h.Ns mainGlobals mg) (hfa : mg ("law" : Str) = some (.ref f)) (c : He.SaysD faL fnL K) (hx : exB K = true) :
    ∃ fd : FuncData, (∀ (s : Shared) (v : Value), BindsTo s fd ⟨[v], []⟩ [("_law_script", v)]) ∧ ∀ base : Heap, K.In base → base.Ns mainGlobals mg → FnOk P w K mg base CX0 4 f fd ["_law_script"] (spLaw K) := by
  obtain ⟨fd_law_start, D_law_start⟩ := c.def_ 0 (d := d_law_start) rfl
  obtain ⟨fd_law_draw, D_law_draw⟩ := c.def_ 1 (d := d_law_draw) rfl
  obtain ⟨fd_law_signs, D_law_signs⟩ := c.def_ 2 (d := d_law_signs) rfl
  obtain ⟨fd_law_thing, D_law_thing⟩ := c.def_ 3 (d := d_law_thing) rfl
  obtain ⟨fd_law_sorts, D_law_sorts⟩ := c.def_ 4 (d := d_law_sorts) rfl
  obtain ⟨fd_law_keeps, D_law_keeps⟩ := c.def_ 5 (d := d_law_keeps) rfl
  obtain ⟨fd_law_all, D_law_all⟩ := c.def_ 6 (d := d_law_all) rfl
  obtain ⟨fd_law_named, D_law_named⟩ := c.def_ 7 (d := d_law_named) rfl
  obtain ⟨fd_law, D_law⟩ := c.def_ 8 (d := d_law) rfl
  obtain ⟨fd_BadArrow, D_BadArrow⟩ := c.def_ 9 (d := d_BadArrow) rfl
  obtain ⟨fd_BadTop, D_BadTop⟩ := c.def_ 10 (d := d_BadTop) rfl
  obtain ⟨fd_BadCount, D_BadCount⟩ := c.def_ 11 (d := d_BadCount) rfl
  obtain ⟨fd_UnknownName, D_UnknownName⟩ := c.def_ 12 (d := d_UnknownName) rfl
  obtain ⟨fd_BadName, D_BadName⟩ := c.def_ 13 (d := d_BadName) rfl
  obtain ⟨fd_BadFact, D_BadFact⟩ := c.def_ 14 (d := d_BadFact) rfl
  obtain ⟨fd_BadSet, D_BadSet⟩ := c.def_ 15 (d := d_BadSet) rfl
  obtain ⟨fd_BadRing, D_BadRing⟩ := c.def_ 16 (d := d_BadRing) rfl
  obtain ⟨fd_BadTable, D_BadTable⟩ := c.def_ 17 (d := d_BadTable) rfl
  obtain ⟨fd_BadState, D_BadState⟩ := c.def_ 18 (d := d_BadState) rfl
  obtain ⟨fd_BadText, D_BadText⟩ := c.def_ 19 (d := d_BadText) rfl
  obtain ⟨fd_NoEven, D_NoEven⟩ := c.def_ 20 (d := d_NoEven) rfl
  obtain ⟨fd_UnlikeParts, D_UnlikeParts⟩ := c.def_ 21 (d := d_UnlikeParts) rfl
  obtain ⟨fd_Clash, D_Clash⟩ := c.def_ 22 (d := d_Clash) rfl
  obtain ⟨fd_HasOdd, D_HasOdd⟩ := c.def_ 23 (d := d_HasOdd) rfl
  obtain ⟨fd_HasRing, D_HasRing⟩ := c.def_ 24 (d := d_HasRing) rfl
  obtain ⟨fd_BadNumber, D_BadNumber⟩ := c.def_ 25 (d := d_BadNumber) rfl
  obtain ⟨fd_NothingToUndo, D_NothingToUndo⟩ := c.def_ 26 (d := d_NothingToUndo) rfl
  obtain ⟨fd_Settles, D_Settles⟩ := c.def_ 27 (d := d_Settles) rfl
  obtain ⟨fd_NoOdd, D_NoOdd⟩ := c.def_ 28 (d := d_NoOdd) rfl
  have g_RestError := He.glo_ok X Gn (c.fact 20 (f := .glo "RestError") rfl)
  have g_BadArrow := He.glo_ok X Gn (c.fact 21 (f := .glo "BadArrow") rfl)
  have g_BadTop := He.glo_ok X Gn (c.fact 22 (f := .glo "BadTop") rfl)
  have g_BadCount := He.glo_ok X Gn (c.fact 23 (f := .glo "BadCount") rfl)
  have g_UnknownName := He.glo_ok X Gn (c.fact 24 (f := .glo "UnknownName") rfl)
  have g_BadName := He.glo_ok X Gn (c.fact 25 (f := .glo "BadName") rfl)
  have g_BadFact := He.glo_ok X Gn (c.fact 26 (f := .glo "BadFact") rfl)
  have g_BadSet := He.glo_ok X Gn (c.fact 27 (f := .glo "BadSet") rfl)
  have g_BadRing := He.glo_ok X Gn (c.fact 28 (f := .glo "BadRing") rfl)
  have g_BadTable := He.glo_ok X Gn (c.fact 29 (f := .glo "BadTable") rfl)
  have g_BadState := He.glo_ok X Gn (c.fact 30 (f := .glo "BadState") rfl)
  have g_BadText := He.glo_ok X Gn (c.fact 31 (f := .glo "BadText") rfl)
  have g_NoEven := He.glo_ok X Gn (c.fact 32 (f := .glo "NoEven") rfl)
  have g_UnlikeParts := He.glo_ok X Gn (c.fact 33 (f := .glo "UnlikeParts") rfl)
  have g_Clash := He.glo_ok X Gn (c.fact 34 (f := .glo "Clash") rfl)
  have g_HasOdd := He.glo_ok X Gn (c.fact 35 (f := .glo "HasOdd") rfl)
  have g_HasRing := He.glo_ok X Gn (c.fact 36 (f := .glo "HasRing") rfl)
  have g_BadNumber := He.glo_ok X Gn (c.fact 37 (f := .glo "BadNumber") rfl)
  have g_NothingToUndo := He.glo_ok X Gn (c.fact 38 (f := .glo "NothingToUndo") rfl)
  have g_Settles := He.glo_ok X Gn (c.fact 39 (f := .glo "Settles") rfl)
  have g_NoOdd := He.glo_ok X Gn (c.fact 40 (f := .glo "NoOdd") rfl)
  have g_law_start := He.glo_ok X Gn (c.fact 0 (f := .glo "_law_start") rfl)
  have g_law_draw := He.glo_ok X Gn (c.fact 1 (f := .glo "_law_draw") rfl)
  have g_law_signs := He.glo_ok X Gn (c.fact 2 (f := .glo "_law_signs") rfl)
  have g_law_thing := He.glo_ok X Gn (c.fact 3 (f := .glo "_law_thing") rfl)
  have g_law_sorts := He.glo_ok X Gn (c.fact 4 (f := .glo "_law_sorts") rfl)
  have g_law_keeps := He.glo_ok X Gn (c.fact 5 (f := .glo "_law_keeps") rfl)
  have g_law_all := He.glo_ok X Gn (c.fact 6 (f := .glo "_law_all") rfl)
  have g_law_named := He.glo_ok X Gn (c.fact 7 (f := .glo "_law_named") rfl)
  have g_law := He.glo_ok X Gn (c.fact 8 (f := .glo "law") rfl)
  have m_len := He.free_ok X Gn (c.fact 9 (f := .free "len") rfl)
  have m_int := He.free_ok X Gn (c.fact 10 (f := .free "int") rfl)
  have m_abs := He.free_ok X Gn (c.fact 11 (f := .free "abs") rfl)
  have m_list := He.free_ok X Gn (c.fact 12 (f := .free "list") rfl)
  have m_tuple := He.free_ok X Gn (c.fact 13 (f := .free "tuple") rfl)
  have m_isinstance := He.free_ok X Gn (c.fact 14 (f := .free "isinstance") rfl)
  have m_range := He.free_ok X Gn (c.fact 15 (f := .free "range") rfl)
  have m_bool := He.free_ok X Gn (c.fact 16 (f := .free "bool") rfl)
  have m_str := He.free_ok X Gn (c.fact 17 (f := .free "str") rfl)
  have m_dict := He.free_ok X Gn (c.fact 18 (f := .free "dict") rfl)
  have m_ValueError := He.free_ok X Gn (c.fact 19 (f := .free "ValueError") rfl)
  have hbl : ∀ x ∈ bltNames, mg x = none := by
    intro x hx
    simp only [bltNames, List.mem_cons, List.not_mem_nil, or_false] at hx
    rcases hx with rfl | rfl | rfl | rfl | rfl | rfl | rfl | rfl | rfl | rfl | rfl
    all_goals assumption
  let cls : Clz := clzE K ecs
  have hE : ∀ dr, ErrOk ⟨K, dr, cls⟩ := fun dr => errOk_of hx dr
  have hgl : ∀ dr, ∀ (i : Nat) x d, gl0[i]? = some (x, d) → ∃ u v, mg x = some u ∧ RelV v u ∧ ∀ w H, Rp ⟨K, dr, cls⟩ w H d v := by
    intro dr i x d e
    match i, e with
    | 0, e => cases e; exact ⟨_, .ref (He.ga K "BadCount"), g_BadCount, rfl, fun _ _ => .cls rfl⟩
    | 1, e => cases e; exact ⟨_, .ref (He.ga K "UnknownName"), g_UnknownName, rfl, fun _ _ => .cls rfl⟩
    | 2, e => cases e; exact ⟨_, .ref (He.ga K "BadName"), g_BadName, rfl, fun _ _ => .cls rfl⟩
    | 3, e => cases e; exact ⟨_, .ref (He.ga K "BadText"), g_BadText, rfl, fun _ _ => .cls rfl⟩
    | 4, e => cases e; exact ⟨_, .ref (He.ga K "BadArrow"), g_BadArrow, rfl, fun _ _ => .cls rfl⟩
    | 5, e => cases e; exact ⟨_, .ref (He.ga K "BadTop"), g_BadTop, rfl, fun _ _ => .cls rfl⟩
    | 6, e => cases e; exact ⟨_, .ref (He.ga K "BadRing"), g_BadRing, rfl, fun _ _ => .cls rfl⟩
    | 7, e => cases e; exact ⟨_, .ref (He.ga K "BadTable"), g_BadTable, rfl, fun _ _ => .cls rfl⟩
    | 8, e => cases e; exact ⟨_, .ref (He.ga K "BadState"), g_BadState, rfl, fun _ _ => .cls rfl⟩
    | 9, e => cases e; exact ⟨_, .ref (He.ga K "BadNumber"), g_BadNumber, rfl, fun _ _ => .cls rfl⟩
    | 10, e => cases e; exact ⟨_, .ref (He.ga K "BadFact"), g_BadFact, rfl, fun _ _ => .cls rfl⟩
    | 11, e => cases e; exact ⟨_, .ref (He.ga K "BadSet"), g_BadSet, rfl, fun _ _ => .cls rfl⟩
    | 12, e => cases e; exact ⟨_, .ref (He.ga K "Clash"), g_Clash, rfl, fun _ _ => .cls rfl⟩
    | 13, e => cases e; exact ⟨_, .ref (He.ga K "HasOdd"), g_HasOdd, rfl, fun _ _ => .cls rfl⟩
    | 14, e => cases e; exact ⟨_, .ref (He.ga K "HasRing"), g_HasRing, rfl, fun _ _ => .cls rfl⟩
    | 15, e => cases e; exact ⟨_, .ref (He.ga K "NoOdd"), g_NoOdd, rfl, fun _ _ => .cls rfl⟩
    | 16, e => cases e; exact ⟨_, .ref (He.ga K "NoEven"), g_NoEven, rfl, fun _ _ => .cls rfl⟩
    | 17, e => cases e; exact ⟨_, .ref (He.ga K "UnlikeParts"), g_UnlikeParts, rfl, fun _ _ => .cls rfl⟩
    | 18, e => cases e; exact ⟨_, .ref (He.ga K "NothingToUndo"), g_NothingToUndo, rfl, fun _ _ => .cls rfl⟩
    | 19, e => cases e; exact ⟨_, .ref (He.ga K "Settles"), g_Settles, rfl, fun _ _ => .cls rfl⟩
    | 20, e => cases e; exact ⟨_, .ref (He.ga K "RestError"), g_RestError, rfl, fun _ _ => .cls rfl⟩
    | i + 21, e => cases e
  have e := hfa.symm.trans g_law
  cases e
  have b := FunD.bindsA (ps := ["_law_script"]) D_law fun _ _ _ _ _ _ us hl => match us, hl with | [_], _ => rfl
  refine ⟨fd_law, fun s v => b s [v] rfl, fun base _ _ => ?_⟩
  have b_start := ok_start (P := P) (w := w) (mg := mg) (base := base) (k := 0) D_law_start m_abs m_list
  have bs_start : Binds K fd_law_start ["_law_script"] [] := D_law_start.bindsN fun _ _ _ _ _ _ us hl => match us, hl with | [_], _ => rfl
  have A_law_draw : ∀ dr, FnA P w K mg base ⟨K, dr, cls⟩ 1 "_law_draw" 2 drawF := fun dr => .df ⟨_, _, _, g_law_draw, D_law_draw.kp, ok_draw (k := 0) rfl D_law_draw m_len m_int, D_law_draw.bindsN fun _ _ _ _ _ _ us hl => match us, hl with | [_, _], _ => rfl⟩
  have M_BadArrow : ∀ dr, MkOk P w K mg base ⟨K, dr, cls⟩ 2 "BadArrow" (He.ga K "BadArrow") (He.ma K (He.ga K "BadArrow") "__init__") fd_BadArrow N_BadArrow 1 (errF "BadArrow" ["value"]) := fun dr => errA (cs := ecs) hx (by decide +kernel) g_BadArrow g_RestError hbl D_BadArrow sc_BadArrow rfl ck_BadArrow (by decide +kernel) (by decide)
  have A_BadArrow : ∀ dr, FnA P w K mg base ⟨K, dr, cls⟩ 2 "BadArrow" 1 (errF "BadArrow" ["value"]) := fun dr => ⟨.inl ⟨_, _, _, _, M_BadArrow dr, D_BadArrow.bindsN fun _ _ _ _ _ _ us hl => match us, hl with | [_, _], _ => rfl⟩⟩
  have M_BadTop : ∀ dr, MkOk P w K mg base ⟨K, dr, cls⟩ 2 "BadTop" (He.ga K "BadTop") (He.ma K (He.ga K "BadTop") "__init__") fd_BadTop N_BadTop 1 (errF "BadTop" ["value"]) := fun dr => errA (cs := ecs) hx (by decide +kernel) g_BadTop g_RestError hbl D_BadTop sc_BadTop rfl ck_BadTop (by decide +kernel) (by decide)
  have A_BadTop : ∀ dr, FnA P w K mg base ⟨K, dr, cls⟩ 2 "BadTop" 1 (errF "BadTop" ["value"]) := fun dr => ⟨.inl ⟨_, _, _, _, M_BadTop dr, D_BadTop.bindsN fun _ _ _ _ _ _ us hl => match us, hl with | [_, _], _ => rfl⟩⟩
  have M_BadCount : ∀ dr, MkOk P w K mg base ⟨K, dr, cls⟩ 2 "BadCount" (He.ga K "BadCount") (He.ma K (He.ga K "BadCount") "__init__") fd_BadCount N_BadCount 1 (errF "BadCount" ["count"]) := fun dr => errA (cs := ecs) hx (by decide +kernel) g_BadCount g_RestError hbl D_BadCount sc_BadCount rfl ck_BadCount (by decide +kernel) (by decide)
  have A_BadCount : ∀ dr, FnA P w K mg base ⟨K, dr, cls⟩ 2 "BadCount" 1 (errF "BadCount" ["count"]) := fun dr => ⟨.inl ⟨_, _, _, _, M_BadCount dr, D_BadCount.bindsN fun _ _ _ _ _ _ us hl => match us, hl with | [_, _], _ => rfl⟩⟩
  have M_UnknownName : ∀ dr, MkOk P w K mg base ⟨K, dr, cls⟩ 2 "UnknownName" (He.ga K "UnknownName") (He.ma K (He.ga K "UnknownName") "__init__") fd_UnknownName N_UnknownName 1 (errF "UnknownName" ["name"]) := fun dr => errA (cs := ecs) hx (by decide +kernel) g_UnknownName g_RestError hbl D_UnknownName sc_UnknownName rfl ck_UnknownName (by decide +kernel) (by decide)
  have A_UnknownName : ∀ dr, FnA P w K mg base ⟨K, dr, cls⟩ 2 "UnknownName" 1 (errF "UnknownName" ["name"]) := fun dr => ⟨.inl ⟨_, _, _, _, M_UnknownName dr, D_UnknownName.bindsN fun _ _ _ _ _ _ us hl => match us, hl with | [_, _], _ => rfl⟩⟩
  have M_BadName : ∀ dr, MkOk P w K mg base ⟨K, dr, cls⟩ 2 "BadName" (He.ga K "BadName") (He.ma K (He.ga K "BadName") "__init__") fd_BadName N_BadName 1 (errF "BadName" ["name"]) := fun dr => errA (cs := ecs) hx (by decide +kernel) g_BadName g_RestError hbl D_BadName sc_BadName rfl ck_BadName (by decide +kernel) (by decide)
  have A_BadName : ∀ dr, FnA P w K mg base ⟨K, dr, cls⟩ 2 "BadName" 1 (errF "BadName" ["name"]) := fun dr => ⟨.inl ⟨_, _, _, _, M_BadName dr, D_BadName.bindsN fun _ _ _ _ _ _ us hl => match us, hl with | [_, _], _ => rfl⟩⟩
  have M_BadFact : ∀ dr, MkOk P w K mg base ⟨K, dr, cls⟩ 2 "BadFact" (He.ga K "BadFact") (He.ma K (He.ga K "BadFact") "__init__") fd_BadFact N_BadFact 1 (errF "BadFact" ["value"]) := fun dr => errA (cs := ecs) hx (by decide +kernel) g_BadFact g_RestError hbl D_BadFact sc_BadFact rfl ck_BadFact (by decide +kernel) (by decide)
  have A_BadFact : ∀ dr, FnA P w K mg base ⟨K, dr, cls⟩ 2 "BadFact" 1 (errF "BadFact" ["value"]) := fun dr => ⟨.inl ⟨_, _, _, _, M_BadFact dr, D_BadFact.bindsN fun _ _ _ _ _ _ us hl => match us, hl with | [_, _], _ => rfl⟩⟩
  have M_BadSet : ∀ dr, MkOk P w K mg base ⟨K, dr, cls⟩ 2 "BadSet" (He.ga K "BadSet") (He.ma K (He.ga K "BadSet") "__init__") fd_BadSet N_BadSet 1 (errF "BadSet" ["value"]) := fun dr => errA (cs := ecs) hx (by decide +kernel) g_BadSet g_RestError hbl D_BadSet sc_BadSet rfl ck_BadSet (by decide +kernel) (by decide)
  have A_BadSet : ∀ dr, FnA P w K mg base ⟨K, dr, cls⟩ 2 "BadSet" 1 (errF "BadSet" ["value"]) := fun dr => ⟨.inl ⟨_, _, _, _, M_BadSet dr, D_BadSet.bindsN fun _ _ _ _ _ _ us hl => match us, hl with | [_, _], _ => rfl⟩⟩
  have M_BadRing : ∀ dr, MkOk P w K mg base ⟨K, dr, cls⟩ 2 "BadRing" (He.ga K "BadRing") (He.ma K (He.ga K "BadRing") "__init__") fd_BadRing N_BadRing 1 (errF "BadRing" ["value"]) := fun dr => errA (cs := ecs) hx (by decide +kernel) g_BadRing g_RestError hbl D_BadRing sc_BadRing rfl ck_BadRing (by decide +kernel) (by decide)
  have A_BadRing : ∀ dr, FnA P w K mg base ⟨K, dr, cls⟩ 2 "BadRing" 1 (errF "BadRing" ["value"]) := fun dr => ⟨.inl ⟨_, _, _, _, M_BadRing dr, D_BadRing.bindsN fun _ _ _ _ _ _ us hl => match us, hl with | [_, _], _ => rfl⟩⟩
  have M_BadTable : ∀ dr, MkOk P w K mg base ⟨K, dr, cls⟩ 2 "BadTable" (He.ga K "BadTable") (He.ma K (He.ga K "BadTable") "__init__") fd_BadTable N_BadTable 1 (errF "BadTable" ["name"]) := fun dr => errA (cs := ecs) hx (by decide +kernel) g_BadTable g_RestError hbl D_BadTable sc_BadTable rfl ck_BadTable (by decide +kernel) (by decide)
  have A_BadTable : ∀ dr, FnA P w K mg base ⟨K, dr, cls⟩ 2 "BadTable" 1 (errF "BadTable" ["name"]) := fun dr => ⟨.inl ⟨_, _, _, _, M_BadTable dr, D_BadTable.bindsN fun _ _ _ _ _ _ us hl => match us, hl with | [_, _], _ => rfl⟩⟩
  have M_BadState : ∀ dr, MkOk P w K mg base ⟨K, dr, cls⟩ 2 "BadState" (He.ga K "BadState") (He.ma K (He.ga K "BadState") "__init__") fd_BadState N_BadState 1 (errF "BadState" ["value"]) := fun dr => errA (cs := ecs) hx (by decide +kernel) g_BadState g_RestError hbl D_BadState sc_BadState rfl ck_BadState (by decide +kernel) (by decide)
  have A_BadState : ∀ dr, FnA P w K mg base ⟨K, dr, cls⟩ 2 "BadState" 1 (errF "BadState" ["value"]) := fun dr => ⟨.inl ⟨_, _, _, _, M_BadState dr, D_BadState.bindsN fun _ _ _ _ _ _ us hl => match us, hl with | [_, _], _ => rfl⟩⟩
  have M_BadText : ∀ dr, MkOk P w K mg base ⟨K, dr, cls⟩ 2 "BadText" (He.ga K "BadText") (He.ma K (He.ga K "BadText") "__init__") fd_BadText N_BadText 1 (errF "BadText" ["text"]) := fun dr => errA (cs := ecs) hx (by decide +kernel) g_BadText g_RestError hbl D_BadText sc_BadText rfl ck_BadText (by decide +kernel) (by decide)
  have A_BadText : ∀ dr, FnA P w K mg base ⟨K, dr, cls⟩ 2 "BadText" 1 (errF "BadText" ["text"]) := fun dr => ⟨.inl ⟨_, _, _, _, M_BadText dr, D_BadText.bindsN fun _ _ _ _ _ _ us hl => match us, hl with | [_, _], _ => rfl⟩⟩
  have M_NoEven : ∀ dr, MkOk P w K mg base ⟨K, dr, cls⟩ 2 "NoEven" (He.ga K "NoEven") (He.ma K (He.ga K "NoEven") "__init__") fd_NoEven N_NoEven 0 (errF "NoEven" []) := fun dr => errA (cs := ecs) hx (by decide +kernel) g_NoEven g_RestError hbl D_NoEven sc_NoEven rfl ck_NoEven (by decide +kernel) (by decide)
  have A_NoEven : ∀ dr, FnA P w K mg base ⟨K, dr, cls⟩ 2 "NoEven" 0 (errF "NoEven" []) := fun dr => ⟨.inl ⟨_, _, _, _, M_NoEven dr, D_NoEven.bindsN fun _ _ _ _ _ _ us hl => match us, hl with | [_], _ => rfl⟩⟩
  have M_UnlikeParts : ∀ dr, MkOk P w K mg base ⟨K, dr, cls⟩ 2 "UnlikeParts" (He.ga K "UnlikeParts") (He.ma K (He.ga K "UnlikeParts") "__init__") fd_UnlikeParts N_UnlikeParts 1 (errF "UnlikeParts" ["names"]) := fun dr => errA (cs := ecs) hx (by decide +kernel) g_UnlikeParts g_RestError hbl D_UnlikeParts sc_UnlikeParts rfl ck_UnlikeParts (by decide +kernel) (by decide)
  have A_UnlikeParts : ∀ dr, FnA P w K mg base ⟨K, dr, cls⟩ 2 "UnlikeParts" 1 (errF "UnlikeParts" ["names"]) := fun dr => ⟨.inl ⟨_, _, _, _, M_UnlikeParts dr, D_UnlikeParts.bindsN fun _ _ _ _ _ _ us hl => match us, hl with | [_, _], _ => rfl⟩⟩
  have M_Clash : ∀ dr, MkOk P w K mg base ⟨K, dr, cls⟩ 2 "Clash" (He.ga K "Clash") (He.ma K (He.ga K "Clash") "__init__") fd_Clash N_Clash 1 (errF "Clash" ["value"]) := fun dr => errA (cs := ecs) hx (by decide +kernel) g_Clash g_RestError hbl D_Clash sc_Clash rfl ck_Clash (by decide +kernel) (by decide)
  have A_Clash : ∀ dr, FnA P w K mg base ⟨K, dr, cls⟩ 2 "Clash" 1 (errF "Clash" ["value"]) := fun dr => ⟨.inl ⟨_, _, _, _, M_Clash dr, D_Clash.bindsN fun _ _ _ _ _ _ us hl => match us, hl with | [_, _], _ => rfl⟩⟩
  have M_HasOdd : ∀ dr, MkOk P w K mg base ⟨K, dr, cls⟩ 2 "HasOdd" (He.ga K "HasOdd") (He.ma K (He.ga K "HasOdd") "__init__") fd_HasOdd N_HasOdd 1 (errF "HasOdd" ["value"]) := fun dr => errA (cs := ecs) hx (by decide +kernel) g_HasOdd g_RestError hbl D_HasOdd sc_HasOdd rfl ck_HasOdd (by decide +kernel) (by decide)
  have A_HasOdd : ∀ dr, FnA P w K mg base ⟨K, dr, cls⟩ 2 "HasOdd" 1 (errF "HasOdd" ["value"]) := fun dr => ⟨.inl ⟨_, _, _, _, M_HasOdd dr, D_HasOdd.bindsN fun _ _ _ _ _ _ us hl => match us, hl with | [_, _], _ => rfl⟩⟩
  have M_HasRing : ∀ dr, MkOk P w K mg base ⟨K, dr, cls⟩ 2 "HasRing" (He.ga K "HasRing") (He.ma K (He.ga K "HasRing") "__init__") fd_HasRing N_HasRing 1 (errF "HasRing" ["value"]) := fun dr => errA (cs := ecs) hx (by decide +kernel) g_HasRing g_RestError hbl D_HasRing sc_HasRing rfl ck_HasRing (by decide +kernel) (by decide)
  have A_HasRing : ∀ dr, FnA P w K mg base ⟨K, dr, cls⟩ 2 "HasRing" 1 (errF "HasRing" ["value"]) := fun dr => ⟨.inl ⟨_, _, _, _, M_HasRing dr, D_HasRing.bindsN fun _ _ _ _ _ _ us hl => match us, hl with | [_, _], _ => rfl⟩⟩
  have M_BadNumber : ∀ dr, MkOk P w K mg base ⟨K, dr, cls⟩ 2 "BadNumber" (He.ga K "BadNumber") (He.ma K (He.ga K "BadNumber") "__init__") fd_BadNumber N_BadNumber 1 (errF "BadNumber" ["value"]) := fun dr => errA (cs := ecs) hx (by decide +kernel) g_BadNumber g_RestError hbl D_BadNumber sc_BadNumber rfl ck_BadNumber (by decide +kernel) (by decide)
  have A_BadNumber : ∀ dr, FnA P w K mg base ⟨K, dr, cls⟩ 2 "BadNumber" 1 (errF "BadNumber" ["value"]) := fun dr => ⟨.inl ⟨_, _, _, _, M_BadNumber dr, D_BadNumber.bindsN fun _ _ _ _ _ _ us hl => match us, hl with | [_, _], _ => rfl⟩⟩
  have M_NothingToUndo : ∀ dr, MkOk P w K mg base ⟨K, dr, cls⟩ 2 "NothingToUndo" (He.ga K "NothingToUndo") (He.ma K (He.ga K "NothingToUndo") "__init__") fd_NothingToUndo N_NothingToUndo 0 (errF "NothingToUndo" []) := fun dr => errA (cs := ecs) hx (by decide +kernel) g_NothingToUndo g_RestError hbl D_NothingToUndo sc_NothingToUndo rfl ck_NothingToUndo (by decide +kernel) (by decide)
  have A_NothingToUndo : ∀ dr, FnA P w K mg base ⟨K, dr, cls⟩ 2 "NothingToUndo" 0 (errF "NothingToUndo" []) := fun dr => ⟨.inl ⟨_, _, _, _, M_NothingToUndo dr, D_NothingToUndo.bindsN fun _ _ _ _ _ _ us hl => match us, hl with | [_], _ => rfl⟩⟩
  have M_Settles : ∀ dr, MkOk P w K mg base ⟨K, dr, cls⟩ 2 "Settles" (He.ga K "Settles") (He.ma K (He.ga K "Settles") "__init__") fd_Settles N_Settles 0 (errF "Settles" []) := fun dr => errA (cs := ecs) hx (by decide +kernel) g_Settles g_RestError hbl D_Settles sc_Settles rfl ck_Settles (by decide +kernel) (by decide)
  have A_Settles : ∀ dr, FnA P w K mg base ⟨K, dr, cls⟩ 2 "Settles" 0 (errF "Settles" []) := fun dr => ⟨.inl ⟨_, _, _, _, M_Settles dr, D_Settles.bindsN fun _ _ _ _ _ _ us hl => match us, hl with | [_], _ => rfl⟩⟩
  have M_NoOdd : ∀ dr, MkOk P w K mg base ⟨K, dr, cls⟩ 2 "NoOdd" (He.ga K "NoOdd") (He.ma K (He.ga K "NoOdd") "__init__") fd_NoOdd N_NoOdd 0 (errF "NoOdd" []) := fun dr => errA (cs := ecs) hx (by decide +kernel) g_NoOdd g_RestError hbl D_NoOdd sc_NoOdd rfl ck_NoOdd (by decide +kernel) (by decide)
  have A_NoOdd : ∀ dr, FnA P w K mg base ⟨K, dr, cls⟩ 2 "NoOdd" 0 (errF "NoOdd" []) := fun dr => ⟨.inl ⟨_, _, _, _, M_NoOdd dr, D_NoOdd.bindsN fun _ _ _ _ _ _ us hl => match us, hl with | [_], _ => rfl⟩⟩
  have B_BadTop_value : ∀ dr, FnK P w K mg base ⟨K, dr, cls⟩ 2 "BadTop" ["value"] 1 (fun ds s => (errF "BadTop" ["value"]) (pick [0] ds) s) := fun dr => by
    obtain ⟨oc, od, dV, kV, doc, pm, an, cdv, ct, osl, efd, lk, hcd, hD, hKw⟩ := D_BadTop.ex
    have hdV : dV = .none := by
      rcases hD with ⟨_, e⟩ | ⟨e, _⟩
      · exact e
      · exact absurd rfl e
    refine ⟨.inl ⟨_, _, _, _, [0], _, _, M_BadTop dr, fun ws hl => ?_, fun s ws a hl => ?_, rfl⟩⟩
    · match ws, hl with
      | [_], _ => rfl
    · subst hdV
      subst efd
      match ws, hl with
      | [_], _ => exact .of_eq rfl
  have B_BadCount_count : ∀ dr, FnK P w K mg base ⟨K, dr, cls⟩ 2 "BadCount" ["count"] 1 (fun ds s => (errF "BadCount" ["count"]) (pick [0] ds) s) := fun dr => by
    obtain ⟨oc, od, dV, kV, doc, pm, an, cdv, ct, osl, efd, lk, hcd, hD, hKw⟩ := D_BadCount.ex
    have hdV : dV = .none := by
      rcases hD with ⟨_, e⟩ | ⟨e, _⟩
      · exact e
      · exact absurd rfl e
    refine ⟨.inl ⟨_, _, _, _, [0], _, _, M_BadCount dr, fun ws hl => ?_, fun s ws a hl => ?_, rfl⟩⟩
    · match ws, hl with
      | [_], _ => rfl
    · subst hdV
      subst efd
      match ws, hl with
      | [_], _ => exact .of_eq rfl
  have B_UnknownName_name : ∀ dr, FnK P w K mg base ⟨K, dr, cls⟩ 2 "UnknownName" ["name"] 1 (fun ds s => (errF "UnknownName" ["name"]) (pick [0] ds) s) := fun dr => by
    obtain ⟨oc, od, dV, kV, doc, pm, an, cdv, ct, osl, efd, lk, hcd, hD, hKw⟩ := D_UnknownName.ex
    have hdV : dV = .none := by
      rcases hD with ⟨_, e⟩ | ⟨e, _⟩
      · exact e
      · exact absurd rfl e
    refine ⟨.inl ⟨_, _, _, _, [0], _, _, M_UnknownName dr, fun ws hl => ?_, fun s ws a hl => ?_, rfl⟩⟩
    · match ws, hl with
      | [_], _ => rfl
    · subst hdV
      subst efd
      match ws, hl with
      | [_], _ => exact .of_eq rfl
  have B_BadName_name : ∀ dr, FnK P w K mg base ⟨K, dr, cls⟩ 2 "BadName" ["name"] 1 (fun ds s => (errF "BadName" ["name"]) (pick [0] ds) s) := fun dr => by
    obtain ⟨oc, od, dV, kV, doc, pm, an, cdv, ct, osl, efd, lk, hcd, hD, hKw⟩ := D_BadName.ex
    have hdV : dV = .none := by
      rcases hD with ⟨_, e⟩ | ⟨e, _⟩
      · exact e
      · exact absurd rfl e
    refine ⟨.inl ⟨_, _, _, _, [0], _, _, M_BadName dr, fun ws hl => ?_, fun s ws a hl => ?_, rfl⟩⟩
    · match ws, hl with
      | [_], _ => rfl
    · subst hdV
      subst efd
      match ws, hl with
      | [_], _ => exact .of_eq rfl
  have B_BadTable_name : ∀ dr, FnK P w K mg base ⟨K, dr, cls⟩ 2 "BadTable" ["name"] 1 (fun ds s => (errF "BadTable" ["name"]) (pick [0] ds) s) := fun dr => by
    obtain ⟨oc, od, dV, kV, doc, pm, an, cdv, ct, osl, efd, lk, hcd, hD, hKw⟩ := D_BadTable.ex
    have hdV : dV = .none := by
      rcases hD with ⟨_, e⟩ | ⟨e, _⟩
      · exact e
      · exact absurd rfl e
    refine ⟨.inl ⟨_, _, _, _, [0], _, _, M_BadTable dr, fun ws hl => ?_, fun s ws a hl => ?_, rfl⟩⟩
    · match ws, hl with
      | [_], _ => rfl
    · subst hdV
      subst efd
      match ws, hl with
      | [_], _ => exact .of_eq rfl
  have B_BadState_value : ∀ dr, FnK P w K mg base ⟨K, dr, cls⟩ 2 "BadState" ["value"] 1 (fun ds s => (errF "BadState" ["value"]) (pick [0] ds) s) := fun dr => by
    obtain ⟨oc, od, dV, kV, doc, pm, an, cdv, ct, osl, efd, lk, hcd, hD, hKw⟩ := D_BadState.ex
    have hdV : dV = .none := by
      rcases hD with ⟨_, e⟩ | ⟨e, _⟩
      · exact e
      · exact absurd rfl e
    refine ⟨.inl ⟨_, _, _, _, [0], _, _, M_BadState dr, fun ws hl => ?_, fun s ws a hl => ?_, rfl⟩⟩
    · match ws, hl with
      | [_], _ => rfl
    · subst hdV
      subst efd
      match ws, hl with
      | [_], _ => exact .of_eq rfl
  have B_BadText_text : ∀ dr, FnK P w K mg base ⟨K, dr, cls⟩ 2 "BadText" ["text"] 1 (fun ds s => (errF "BadText" ["text"]) (pick [0] ds) s) := fun dr => by
    obtain ⟨oc, od, dV, kV, doc, pm, an, cdv, ct, osl, efd, lk, hcd, hD, hKw⟩ := D_BadText.ex
    have hdV : dV = .none := by
      rcases hD with ⟨_, e⟩ | ⟨e, _⟩
      · exact e
      · exact absurd rfl e
    refine ⟨.inl ⟨_, _, _, _, [0], _, _, M_BadText dr, fun ws hl => ?_, fun s ws a hl => ?_, rfl⟩⟩
    · match ws, hl with
      | [_], _ => rfl
    · subst hdV
      subst efd
      match ws, hl with
      | [_], _ => exact .of_eq rfl
  have B_BadArrow_value : ∀ dr, FnK P w K mg base ⟨K, dr, cls⟩ 2 "BadArrow" ["value"] 1 (fun ds s => (errF "BadArrow" ["value"]) (pick [0] ds) s) := fun dr => by
    obtain ⟨oc, od, dV, kV, doc, pm, an, cdv, ct, osl, efd, lk, hcd, hD, hKw⟩ := D_BadArrow.ex
    have hdV : dV = .none := by
      rcases hD with ⟨_, e⟩ | ⟨e, _⟩
      · exact e
      · exact absurd rfl e
    refine ⟨.inl ⟨_, _, _, _, [0], _, _, M_BadArrow dr, fun ws hl => ?_, fun s ws a hl => ?_, rfl⟩⟩
    · match ws, hl with
      | [_], _ => rfl
    · subst hdV
      subst efd
      match ws, hl with
      | [_], _ => exact .of_eq rfl
  have B_BadNumber_value : ∀ dr, FnK P w K mg base ⟨K, dr, cls⟩ 2 "BadNumber" ["value"] 1 (fun ds s => (errF "BadNumber" ["value"]) (pick [0] ds) s) := fun dr => by
    obtain ⟨oc, od, dV, kV, doc, pm, an, cdv, ct, osl, efd, lk, hcd, hD, hKw⟩ := D_BadNumber.ex
    have hdV : dV = .none := by
      rcases hD with ⟨_, e⟩ | ⟨e, _⟩
      · exact e
      · exact absurd rfl e
    refine ⟨.inl ⟨_, _, _, _, [0], _, _, M_BadNumber dr, fun ws hl => ?_, fun s ws a hl => ?_, rfl⟩⟩
    · match ws, hl with
      | [_], _ => rfl
    · subst hdV
      subst efd
      match ws, hl with
      | [_], _ => exact .of_eq rfl
  have B_BadFact_value : ∀ dr, FnK P w K mg base ⟨K, dr, cls⟩ 2 "BadFact" ["value"] 1 (fun ds s => (errF "BadFact" ["value"]) (pick [0] ds) s) := fun dr => by
    obtain ⟨oc, od, dV, kV, doc, pm, an, cdv, ct, osl, efd, lk, hcd, hD, hKw⟩ := D_BadFact.ex
    have hdV : dV = .none := by
      rcases hD with ⟨_, e⟩ | ⟨e, _⟩
      · exact e
      · exact absurd rfl e
    refine ⟨.inl ⟨_, _, _, _, [0], _, _, M_BadFact dr, fun ws hl => ?_, fun s ws a hl => ?_, rfl⟩⟩
    · match ws, hl with
      | [_], _ => rfl
    · subst hdV
      subst efd
      match ws, hl with
      | [_], _ => exact .of_eq rfl
  have B_BadSet_value : ∀ dr, FnK P w K mg base ⟨K, dr, cls⟩ 2 "BadSet" ["value"] 1 (fun ds s => (errF "BadSet" ["value"]) (pick [0] ds) s) := fun dr => by
    obtain ⟨oc, od, dV, kV, doc, pm, an, cdv, ct, osl, efd, lk, hcd, hD, hKw⟩ := D_BadSet.ex
    have hdV : dV = .none := by
      rcases hD with ⟨_, e⟩ | ⟨e, _⟩
      · exact e
      · exact absurd rfl e
    refine ⟨.inl ⟨_, _, _, _, [0], _, _, M_BadSet dr, fun ws hl => ?_, fun s ws a hl => ?_, rfl⟩⟩
    · match ws, hl with
      | [_], _ => rfl
    · subst hdV
      subst efd
      match ws, hl with
      | [_], _ => exact .of_eq rfl
  have B_BadRing_value : ∀ dr, FnK P w K mg base ⟨K, dr, cls⟩ 2 "BadRing" ["value"] 1 (fun ds s => (errF "BadRing" ["value"]) (pick [0] ds) s) := fun dr => by
    obtain ⟨oc, od, dV, kV, doc, pm, an, cdv, ct, osl, efd, lk, hcd, hD, hKw⟩ := D_BadRing.ex
    have hdV : dV = .none := by
      rcases hD with ⟨_, e⟩ | ⟨e, _⟩
      · exact e
      · exact absurd rfl e
    refine ⟨.inl ⟨_, _, _, _, [0], _, _, M_BadRing dr, fun ws hl => ?_, fun s ws a hl => ?_, rfl⟩⟩
    · match ws, hl with
      | [_], _ => rfl
    · subst hdV
      subst efd
      match ws, hl with
      | [_], _ => exact .of_eq rfl
  have B_UnlikeParts_names : ∀ dr, FnK P w K mg base ⟨K, dr, cls⟩ 2 "UnlikeParts" ["names"] 1 (fun ds s => (errF "UnlikeParts" ["names"]) (pick [0] ds) s) := fun dr => by
    obtain ⟨oc, od, dV, kV, doc, pm, an, cdv, ct, osl, efd, lk, hcd, hD, hKw⟩ := D_UnlikeParts.ex
    have hdV : dV = .none := by
      rcases hD with ⟨_, e⟩ | ⟨e, _⟩
      · exact e
      · exact absurd rfl e
    refine ⟨.inl ⟨_, _, _, _, [0], _, _, M_UnlikeParts dr, fun ws hl => ?_, fun s ws a hl => ?_, rfl⟩⟩
    · match ws, hl with
      | [_], _ => rfl
    · subst hdV
      subst efd
      match ws, hl with
      | [_], _ => exact .of_eq rfl
  have B_Clash_value : ∀ dr, FnK P w K mg base ⟨K, dr, cls⟩ 2 "Clash" ["value"] 1 (fun ds s => (errF "Clash" ["value"]) (pick [0] ds) s) := fun dr => by
    obtain ⟨oc, od, dV, kV, doc, pm, an, cdv, ct, osl, efd, lk, hcd, hD, hKw⟩ := D_Clash.ex
    have hdV : dV = .none := by
      rcases hD with ⟨_, e⟩ | ⟨e, _⟩
      · exact e
      · exact absurd rfl e
    refine ⟨.inl ⟨_, _, _, _, [0], _, _, M_Clash dr, fun ws hl => ?_, fun s ws a hl => ?_, rfl⟩⟩
    · match ws, hl with
      | [_], _ => rfl
    · subst hdV
      subst efd
      match ws, hl with
      | [_], _ => exact .of_eq rfl
  have B_HasOdd_value : ∀ dr, FnK P w K mg base ⟨K, dr, cls⟩ 2 "HasOdd" ["value"] 1 (fun ds s => (errF "HasOdd" ["value"]) (pick [0] ds) s) := fun dr => by
    obtain ⟨oc, od, dV, kV, doc, pm, an, cdv, ct, osl, efd, lk, hcd, hD, hKw⟩ := D_HasOdd.ex
    have hdV : dV = .none := by
      rcases hD with ⟨_, e⟩ | ⟨e, _⟩
      · exact e
      · exact absurd rfl e
    refine ⟨.inl ⟨_, _, _, _, [0], _, _, M_HasOdd dr, fun ws hl => ?_, fun s ws a hl => ?_, rfl⟩⟩
    · match ws, hl with
      | [_], _ => rfl
    · subst hdV
      subst efd
      match ws, hl with
      | [_], _ => exact .of_eq rfl
  have B_HasRing_value : ∀ dr, FnK P w K mg base ⟨K, dr, cls⟩ 2 "HasRing" ["value"] 1 (fun ds s => (errF "HasRing" ["value"]) (pick [0] ds) s) := fun dr => by
    obtain ⟨oc, od, dV, kV, doc, pm, an, cdv, ct, osl, efd, lk, hcd, hD, hKw⟩ := D_HasRing.ex
    have hdV : dV = .none := by
      rcases hD with ⟨_, e⟩ | ⟨e, _⟩
      · exact e
      · exact absurd rfl e
    refine ⟨.inl ⟨_, _, _, _, [0], _, _, M_HasRing dr, fun ws hl => ?_, fun s ws a hl => ?_, rfl⟩⟩
    · match ws, hl with
      | [_], _ => rfl
    · subst hdV
      subst efd
      match ws, hl with
      | [_], _ => exact .of_eq rfl
  have A_law_signs : ∀ dr, FnA P w K mg base ⟨K, dr, cls⟩ 1 "_law_signs" 0 F_law_signs := fun dr => .df ⟨_, _, _, g_law_signs, D_law_signs.kp, fn_sound (lv := 0) (tb := t_law_signs) (gl := gl0) c_law_signs D_law_signs sc_law_signs ck_law_signs rfl hbl (hgl dr) rfl (by
      intro i x ks n F e
      match i, e with
      | i + 0, e => cases e) (hE dr), D_law_signs.bindsN fun _ _ _ _ _ _ us hl => match us, hl with | [], _ => rfl⟩
  have A_law_thing : ∀ dr, FnA P w K mg base ⟨K, dr, cls⟩ 2 "_law_thing" 1 F_law_thing := fun dr => .df ⟨_, _, _, g_law_thing, D_law_thing.kp, fn_sound (lv := 1) (tb := t_law_thing) (gl := gl0) c_law_thing D_law_thing sc_law_thing ck_law_thing rfl hbl (hgl dr) rfl (by
      intro i x ks n F e
      match i, e with
      | 0, e => cases e; exact FnE.mono (ks := []) (A_law_draw dr) (by decide)
      | 1, e => cases e; exact FnE.mono (ks := []) (A_law_signs dr) (by decide)
      | i + 2, e => cases e) (hE dr), D_law_thing.bindsN fun _ _ _ _ _ _ us hl => match us, hl with | [_], _ => rfl⟩
  have A_law_sorts : ∀ dr, FnA P w K mg base ⟨K, dr, cls⟩ 1 "_law_sorts" 1 F_law_sorts := fun dr => .df ⟨_, _, _, g_law_sorts, D_law_sorts.kp, fn_sound (lv := 0) (tb := t_law_sorts) (gl := gl0) c_law_sorts D_law_sorts sc_law_sorts ck_law_sorts rfl hbl (hgl dr) rfl (by
      intro i x ks n F e
      match i, e with
      | i + 0, e => cases e) (hE dr), D_law_sorts.bindsN fun _ _ _ _ _ _ us hl => match us, hl with | [_], _ => rfl⟩
  have A_law_keeps : ∀ dr, FnA P w K mg base ⟨K, dr, cls⟩ 2 "_law_keeps" 2 F_law_keeps := fun dr => .df ⟨_, _, _, g_law_keeps, D_law_keeps.kp, fn_sound (lv := 1) (tb := t_law_keeps) (gl := gl0) c_law_keeps D_law_keeps sc_law_keeps ck_law_keeps rfl hbl (hgl dr) rfl (by
      intro i x ks n F e
      match i, e with
      | 0, e => cases e; exact FnE.mono (ks := []) (A_law_sorts dr) (by decide)
      | i + 1, e => cases e) (hE dr), D_law_keeps.bindsN fun _ _ _ _ _ _ us hl => match us, hl with | [_, _], _ => rfl⟩
  have A_law_all : ∀ dr, FnA P w K mg base ⟨K, dr, cls⟩ 3 "_law_all" 1 F_law_all := fun dr => .df ⟨_, _, _, g_law_all, D_law_all.kp, fn_sound (lv := 2) (tb := t_law_all) (gl := gl0) c_law_all D_law_all sc_law_all ck_law_all rfl hbl (hgl dr) rfl (by
      intro i x ks n F e
      match i, e with
      | 0, e => cases e; exact FnE.mono (ks := []) (A_BadArrow dr) (by decide)
      | 1, e => cases e; exact FnE.mono (ks := []) (A_BadTop dr) (by decide)
      | 2, e => cases e; exact FnE.mono (ks := []) (A_BadCount dr) (by decide)
      | 3, e => cases e; exact FnE.mono (ks := []) (A_UnknownName dr) (by decide)
      | 4, e => cases e; exact FnE.mono (ks := []) (A_BadName dr) (by decide)
      | 5, e => cases e; exact FnE.mono (ks := []) (A_BadFact dr) (by decide)
      | 6, e => cases e; exact FnE.mono (ks := []) (A_BadSet dr) (by decide)
      | 7, e => cases e; exact FnE.mono (ks := []) (A_BadRing dr) (by decide)
      | 8, e => cases e; exact FnE.mono (ks := []) (A_BadTable dr) (by decide)
      | 9, e => cases e; exact FnE.mono (ks := []) (A_BadState dr) (by decide)
      | 10, e => cases e; exact FnE.mono (ks := []) (A_BadText dr) (by decide)
      | 11, e => cases e; exact FnE.mono (ks := []) (A_NoEven dr) (by decide)
      | 12, e => cases e; exact FnE.mono (ks := []) (A_UnlikeParts dr) (by decide)
      | 13, e => cases e; exact FnE.mono (ks := []) (A_Clash dr) (by decide)
      | 14, e => cases e; exact FnE.mono (ks := []) (A_HasOdd dr) (by decide)
      | 15, e => cases e; exact FnE.mono (ks := []) (A_HasRing dr) (by decide)
      | 16, e => cases e; exact FnE.mono (ks := []) (A_BadNumber dr) (by decide)
      | 17, e => cases e; exact FnE.mono (ks := []) (A_NothingToUndo dr) (by decide)
      | 18, e => cases e; exact FnE.mono (ks := []) (A_Settles dr) (by decide)
      | 19, e => cases e; exact FnE.mono (ks := []) (A_NoOdd dr) (by decide)
      | i + 20, e => cases e) (hE dr), D_law_all.bindsN fun _ _ _ _ _ _ us hl => match us, hl with | [_], _ => rfl⟩
  have A_law_named : ∀ dr, FnA P w K mg base ⟨K, dr, cls⟩ 3 "_law_named" 1 F_law_named := fun dr => .df ⟨_, _, _, g_law_named, D_law_named.kp, fn_sound (lv := 2) (tb := t_law_named) (gl := gl0) c_law_named D_law_named sc_law_named ck_law_named rfl hbl (hgl dr) rfl (by
      intro i x ks n F e
      match i, e with
      | 0, e => cases e; exact FnE.mono (ks := ["value"]) (B_BadTop_value dr) (by decide)
      | 1, e => cases e; exact FnE.mono (ks := ["count"]) (B_BadCount_count dr) (by decide)
      | 2, e => cases e; exact FnE.mono (ks := ["name"]) (B_UnknownName_name dr) (by decide)
      | 3, e => cases e; exact FnE.mono (ks := ["name"]) (B_BadName_name dr) (by decide)
      | 4, e => cases e; exact FnE.mono (ks := ["name"]) (B_BadTable_name dr) (by decide)
      | 5, e => cases e; exact FnE.mono (ks := ["value"]) (B_BadState_value dr) (by decide)
      | 6, e => cases e; exact FnE.mono (ks := ["text"]) (B_BadText_text dr) (by decide)
      | 7, e => cases e; exact FnE.mono (ks := ["value"]) (B_BadArrow_value dr) (by decide)
      | 8, e => cases e; exact FnE.mono (ks := ["value"]) (B_BadNumber_value dr) (by decide)
      | 9, e => cases e; exact FnE.mono (ks := ["value"]) (B_BadFact_value dr) (by decide)
      | 10, e => cases e; exact FnE.mono (ks := ["value"]) (B_BadSet_value dr) (by decide)
      | 11, e => cases e; exact FnE.mono (ks := ["value"]) (B_BadRing_value dr) (by decide)
      | 12, e => cases e; exact FnE.mono (ks := ["names"]) (B_UnlikeParts_names dr) (by decide)
      | 13, e => cases e; exact FnE.mono (ks := ["value"]) (B_Clash_value dr) (by decide)
      | 14, e => cases e; exact FnE.mono (ks := ["value"]) (B_HasOdd_value dr) (by decide)
      | 15, e => cases e; exact FnE.mono (ks := ["value"]) (B_HasRing_value dr) (by decide)
      | 16, e => cases e; exact FnE.mono (ks := []) (A_NothingToUndo dr) (by decide)
      | 17, e => cases e; exact FnE.mono (ks := []) (A_Settles dr) (by decide)
      | 18, e => cases e; exact FnE.mono (ks := []) (A_NoOdd dr) (by decide)
      | 19, e => cases e; exact FnE.mono (ks := []) (A_NoEven dr) (by decide)
      | i + 20, e => cases e) (hE dr), D_law_named.bindsN fun _ _ _ _ _ _ us hl => match us, hl with | [_], _ => rfl⟩
  refine law_cx0 ?_
  exact law_sound (lv := 3) (cls := cls) (tb := t_law) (gl := gl0) (N := N_law) (fs := f_law) c_law D_law sc_law bd_law ck_law0 ck_law (by decide) hbl hgl rfl (fun dr => by
    intro i x ks n F e
    match i, e with
    | 0, e => cases e; exact FnE.mono (ks := []) (A_law_thing dr) (by decide)
    | 1, e => cases e; exact FnE.mono (ks := []) (A_law_keeps dr) (by decide)
    | 2, e => cases e; exact FnE.mono (ks := []) (A_law_all dr) (by decide)
    | 3, e => cases e; exact FnE.mono (ks := []) (A_law_named dr) (by decide)
    | 4, e => cases e; exact FnE.mono (ks := []) (A_law_draw dr) (by decide)
    | i + 5, e => cases e) hE (b_start.mono (by decide)) g_law_start D_law_start.kp bs_start good_law
end SR
open PySem PySem.W PySem.Calls PyProof.Rows
set_option maxHeartbeats 0 in
theorem PySem.Challenge.cw_surerests_k02_errors_holds : PySem.Challenge.rw_surerests_k02_errors.Holds := by
  w_on; o_law
  refine HandSHeadRun.head_any (r := OpenLaw.row PySem.Challenge.rw_surerests_k02_errors) (q := view (OpenLaw.row PySem.Challenge.rw_surerests_k02_errors).prog [31]) (H := SR.hk) (ob := SR.ob) (M := 20000) (loose := SR.looseL) (d := HandSHeadRun.topDef (OpenLaw.row PySem.Challenge.rw_surerests_k02_errors).prog 31) (kwd := []) SR.ob_eq
    (by kernel_rfl) (fun s => by kernel_rfl) SR.run (by kernel_rfl) (by kernel_rfl) (by kernel_rfl) (by rfl) (by first | assumption | decide +kernel) (by decide +kernel) ⟨rfl, rfl, rfl, rfl, rfl, by decide +kernel⟩ ?hw ?hc
  case hw => w_witness2
  case hc =>
    refine L2.walk_ofE (l := PySem.Challenge.rw_surerests_k02_errors) (n := 63) (k := 4) (x := "_law_script") (CX := L2.CX0) rfl (by decide) (by kernel_rfl) ⟨rfl, by decide, by decide⟩ ?F (fun _ _ _ _ z => z)
    intro w mg fa h Y G hmg0
    obtain ⟨K, KX, c, hx⟩ := Y
    have hmg : mg ("law" : PySem.Str) = some (.ref fa) := by
      have e : (HandSHeadRun.topDef (OpenLaw.row PySem.Challenge.rw_surerests_k02_errors).prog 31).name = ("law" : PySem.Str) := by kernel_rfl
      rw [← e]
      exact hmg0
    obtain ⟨fd, hb, hF⟩ := SR.facts (P := (PySem.Challenge.rw_surerests_k02_errors).prog) (w := w) KX G hmg c hx
    exact ⟨K, fd, SR.spLaw K, KX, hb, fun H a ns hl _ hS => ⟨a, ns, rfl, hS, hl, fun _ => rfl⟩, hF⟩