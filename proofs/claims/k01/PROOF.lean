import PyProof.Rows.All
import Wide.All
import OpenK.AllK
import Wide.FinOn
import KE.KExcSuper
import HandS.ForMost
import HandS.ForExc
import HandS.ExcInit
import HandS.ExcValue
import HandS.IsInst
import KE.KExcIs
import PyProof.ReprRoads
import HandS.WideBits
import HandS.Iter
import PyProof.ReprLen
import PyProof.StrLawsRepr
import PyProof.FitsInt
import PySem.Challenge.RW_kindgrants_k01_errors_made
import KE.IntBitsLaws
import HandS.Style
import KE.OsRunLaw
set_option Elab.async false
set_option linter.all false
set_option maxRecDepth 100000
set_option maxHeartbeats 4000000
/-! Errors of the package at the library's level: super().__init__() and self.value = value in an own __init__; the call C(..), with a keyword too. -/
namespace ErrA
open PySem PySem.W PySem.Calls PyProof.Rows PySem.HandSPX

section kwcall
variable {M : Model} {A : Around} {E : Value → Shared → Prop} {h : Heap} {g : Array GenState} {d : Drawn} {t : Nat} {os : OsState}
variable {nm q : Str} {C N : Addr} {bs bm bmB : List Value} {hdct : Bool} {sn : List Str} {sub : List Value} {ab : Bool} {col : Option Bool} {dd : Option Addr}
variable {k0 k1 k2 k3 k5 : Option Value} {B newId initId : String}
theorem new_check (F : ExcBaseFacts B newId initId bmB) (hT : ∀ X : String, bm.contains (.type X) = bmB.contains (.type X)) {v : Value} {Q : Unit → Shared → Prop}
    (hC : h.get? C = some (excClassObj nm q C N bs bm hdct sn sub ab col dd k0 k1 k2 k3 k5 newId))
    (hq : Q () ⟨h, g, d, t, os⟩) : wpAny M A (checkBuiltinCall newId ⟨[.ref C], [("value", v)]⟩) Q E ⟨h, g, d, t, os⟩ := by
  have c0 : (Value.ref C :: bm).contains (.type B) = true := by
    rw [List.contains_cons, hT, F.hasB, Bool.or_true]
  have st := F.noStar
  simp only [checkBuiltinCall, F.newKind, F.newSplit, F.newRow]
  repeat (first
    | refine wpAny_loadPart_at hC ?_
    | (refine wpAny_isSubtype_exc hC ?_; rw [c0])
    | refine wpAny_staticBase_exc hC ?_
    | refine wpAny_madeBy_exc hC ?_
    | simp only [bne_self_eq_false, Bool.false_eq_true, if_false]
    | wp_step)
  exact hq
end kwcall
section kwcall2
variable {prog : Program} {w : World} {A : Around} {E : Value → Shared → Prop} {R : Result → Shared → Prop}
variable {h : Heap} {g : Array GenState} {d : Drawn} {t : Nat} {os : OsState}
variable {nm q : Str} {C N : Addr} {bs bm bmB : List Value} {hdct : Bool} {sn : List Str} {sub : List Value} {ab : Bool} {col : Option Bool} {dd : Option Addr}
variable {k0 k1 k2 k3 k5 : Option Value} {B newId initId : String}
abbrev freshExc (h : Heap) (C : Addr) : Heap := (h.push (kdv_tup [])).push (excO C h.objs.size)
theorem new_kw (F : ExcBaseFacts B newId initId bmB) (hT : ∀ X : String, bm.contains (.type X) = bmB.contains (.type X)) {v : Value}
    (hC : h.get? C = some (excClassObj nm q C N bs bm hdct sn sub ab col dd k0 k1 k2 k3 k5 newId))
    (hq : R (.ok (.ret (.ref (h.objs.size + 1)))) ⟨freshExc h C, g, d, t, os⟩) :
    codeAny (model prog w) A (.builtin newId ⟨[.ref C], [("value", v)]⟩) R ⟨h, g, d, t, os⟩ := by
  have e1 := F.ends
  have c0 : (Value.ref C :: bm).contains (.type B) = true := by
    rw [List.contains_cons, hT, F.hasB, Bool.or_true]
  have c1 : (Value.ref C :: bm).contains (.type "AttributeError") = false := by
    rw [List.contains_cons, hT, F.noAttr]; rfl
  have c2 : (Value.ref C :: bm).contains (.type "NameError") = false := by
    rw [List.contains_cons, hT, F.noName]; rfl
  have hz : ([] : List Value).length ≤ sizeLine := Nat.zero_le _
  refine codeAny_builtinAt F.entry ?_
  unfold Builtin.«BaseException.__new__»
  refine _root_.PySem.wpAt_bind ?_
  show _root_.PySem.wpAt _ _ _ (stack >>= _) _ _ _
  refine _root_.PySem.wpAt_bind (_root_.PySem.wpAt_stack fun p below => _root_.PySem.wpAt_of_wpAny ?_)
  wp_walk
  refine _root_.PySem.wpAt_of_wpAny ?_
  rw [F.owner]
  repeat (first
    | with_reducible refine wpAny_madeHere_exc F.canon hC ?_
    | with_reducible refine wpAny_loadPart_at hC ?_
    | (with_reducible refine wpAny_isSubtype_exc hC ?_; first | rw [c0] | rw [c1] | rw [c2])
    | wp_step)
  show R _ _
  rw [Heap.size_push]
  exact hq
theorem type_call_kw (F : ExcBaseFacts B newId initId bmB) (hT : ∀ X : String, bm.contains (.type X) = bmB.contains (.type X)) {v : Value} {fI : Addr} {Q : Fin → Shared → Prop}
    (hC : h.get? C = some (excClassObj nm q C N bs bm hdct sn sub ab col dd k0 k1 k2 k3 k5 newId))
    (hi : W.Looks (model prog w) h (typeLookup (.ref C) "__init__") (some (.ref fI)))
    (hb : ∀ self, W.Looks (model prog w) h (bindSpecial (.ref fI) self) (.ref fI, [self]))
    (hq : codeAny (model prog w) A (.call (.ref fI) ⟨[.ref (h.objs.size + 1)], [("value", v)]⟩)
      (fun r s' => match r with | .ok (.ret u) => u = .none ∧ Q (.done (.ret (.ref (h.objs.size + 1)))) s' | .ok _ => False | .error e => E e s')
      ⟨freshExc h C, g, d, t, os⟩) :
    wpAny (model prog w) A (Builtin.«type.__call__» ⟨[.ref C], [("value", v)]⟩) Q E ⟨h, g, d, t, os⟩ := by
  repeat (first | with_reducible refine wpAny_loadPart_at hC ?_ | with_reducible refine wpAny_madeBy_exc hC ?_ | wp_step)
  refine codeAny_call_builtin_code (Code.quiet_builtin _ F.quiet) (new_check F hT hC ?_)
  refine new_kw F hT hC ?_
  show wpAny _ _ _ _ _ _
  have k : ∀ b o, h.get? b = some o → (freshExc h C).get? b = some o := fun b o e => Heap.get?_push_of_some _ (Heap.get?_push_of_some _ e)
  have gC := k _ _ hC
  have gx : (freshExc h C).get? (h.objs.size + 1) = some (excO C h.objs.size) := by heap_get
  have cc : (Value.ref C :: bm).contains (.ref C) = true := by simp
  have i1 := hi.keeps k
  have b1 := (hb (.ref (h.objs.size + 1))).keeps k
  unfold isInstance
  repeat (first | with_reducible refine wpAny_loadPart_at gx ?_ | (with_reducible refine wpAny_isSubtype_exc gC ?_; rw [cc]) | wp_step)
  show wpAny _ _ (typeLookup (.ref C) _) _ _ _
  refine i1.at ?_
  refine wpAny_holding (wpAny_bind (b1.at ?_))
  refine wpAny_bind (wpAny_call (codeAny_mono hq fun r s' z => ?_))
  rcases r with e | (u | _ | _ | _) <;> first | exact z | exact z.elim | skip
  obtain ⟨rfl, z⟩ := z
  first
    | exact wpAny_pure (wpAny_pure z)
    | (wp_walk; exact z)
theorem call_kw (F : ExcBaseFacts B newId initId bmB) (hT : ∀ X : String, bm.contains (.type X) = bmB.contains (.type X)) {v : Value} {fI : Addr}
    (hC : h.get? C = some (excClassObj nm q C N bs bm hdct sn sub ab col dd k0 k1 k2 k3 k5 newId))
    (hi : W.Looks (model prog w) h (typeLookup (.ref C) "__init__") (some (.ref fI)))
    (hb : ∀ self, W.Looks (model prog w) h (bindSpecial (.ref fI) self) (.ref fI, [self]))
    (hq : codeAny (model prog w) (A.under (.builtin "type.__call__" ⟨[.ref C], [("value", v)]⟩)) (.call (.ref fI) ⟨[.ref (h.objs.size + 1)], [("value", v)]⟩) (W.InitBack (h.objs.size + 1) R)
      ⟨freshExc h C, g, d, t, os⟩) :
    codeAny (model prog w) A (.call (.ref C) ⟨[], [("value", v)]⟩) R ⟨h, g, d, t, os⟩ := by
  have f1 := tc_lookup
  have f2 := tc_bind (.ref C)
  have hTy : (⟨h, g, d, t, os⟩ : Shared).TypeIs (.ref C) "type" := ⟨_, hC, rfl⟩
  refine codeAny_of_tree ?_
  show wpAny _ _ (callAny (.ref C) _) _ _ _
  repeat (any_goals (first | assumption | with_reducible refine wpAny_loadPart_at hC ?_ | wp_step))
  refine ⟨rfl, ?_⟩
  refine codeAny_call_builtin_at (Code.quiet_builtin _ (by decide +kernel)) entry_typeCall (wpAny_check_type_call_sub hC (type_call_kw F hT hC hi hb ?_))
  refine codeAny_mono hq fun r s' z => ?_
  rcases r with e | (u | _ | _ | _) <;> exact z
end kwcall2
end ErrA
set_option maxHeartbeats 4000000
namespace ErrA
open PySem PySem.W PySem.Calls PyProof.Rows PySem.HandSPX
/-- the body of each error's __init__ -/
abbrev iBody (p1 p2 p3 p4 p5 p6 p7 p8 p9 : Pos) : List Stmt :=
  [.Expr (.Call (.Attribute (.Call (.Name "super" p1) [] [] p2) "__init__" p3) [] [] p4) p5,
   .Assign [.Attribute (.Name "self" p6) "value" p7] (.Name "value" p8) p9]
abbrev iArgs (a1 a2 : Pos) (df : List Expr) : Arguments :=
  { posonlyargs := [], args := [{ arg := "self", annotation := none, pos := a1 }, { arg := "value", annotation := none, pos := a2 }], vararg := none, kwonlyargs := [], kw_defaults := [], kwarg := none, defaults := df }
abbrev iScope : Scope := { kind := .function, names := [("self", .local), ("value", .local), ("__class__", .free), ("super", .globalImplicit)], isGenerator := false, isCoroutine := false, more := [] }
abbrev excD (C t : Addr) (d : Option Addr) : Obj := { cls := .ref C, dict := d, data := .fields #[.ref t, .none, .none, .none, .bool false, .none] }
/-- what the written part says of an error's class and its __init__ -/
structure ErrK (prog : Program) (K : Frag) (C fI : Addr) : Prop where
  ox : L2.OexC K C
  noV : findIn K (.ref C) "value" = some none
  iC : findIn K (.ref C) "__init__" = some (some (.ref fI))
  tI : typeIn K (.ref fI) = some (.type "function")
  sup : ks_superIn K C C "__init__" = some (some (.builtin "ValueError.__init__"))
  sub : mroIn K C (.ref C) = some true
  isV : subIn K (.ref C) (.type "ValueError") = some true
  third : nsIn K cStatics "thirdparty.any" = some none
/-- the function object of an error's __init__ -/
structure IniK (prog : Program) (K : Frag) (C fI : Addr) (fd : FuncData) : Prop where
  ex : ∃ (oc od osl : _) (qual : Str) (a1 a2 p1 p2 p3 p4 p5 p6 p7 p8 p9 : Pos) (df : List Expr) (dV kV doc pm : Value) (an : Option Addr) (cda cc : Addr) (ct : Value),
    fd = ksFn "__init__" qual (iArgs a1 a2 df) (iBody p1 p2 p3 p4 p5 p6 p7 p8 p9) iScope dV kV doc pm an (.ref cda) ct cc ∧
    K.lookup fI = some ⟨oc, od, .func fd, osl⟩ ∧ codeIn K (.ref cda) qual = true ∧ (p3.endLine == p4.line) = true ∧
    (∃ T o n, dV = .ref T ∧ K.lookup T = some o ∧ o.data = .seq #[Value.none] n) ∧
    (∃ cl cld csl, K.lookup cc = some ⟨cl, cld, .cell (some (.ref C)), csl⟩) ∧
    ∃ ccl cdd vs ccs file tf, K.lookup cda = some ⟨ccl, cdd, .fields vs, ccs⟩ ∧ vs[2]? = some (.str file tf) ∧ ((prog.main.file : Str) == file) = true
section
variable {prog : Program} {w : World} {A : Around} {E : Value → Shared → Prop} {R : Result → Shared → Prop} {K : Frag} {mg mb : Str → Option Value}
theorem err_init {hp : Heap} {g : Array GenState} {d : Drawn} {t : Nat} {os : OsState} {C fI x t0 : Addr} {v : Value} {fd : FuncData} {args : Args}
    (T : ErrK prog K C fI) (J : IniK prog K C fI fd) (X : K.In hp) (hgl : hp.Ns mainGlobals mg) (hsu : mg "super" = none) (hbl : hp.Ns builtinsNs mb) (hbb : ∀ y : Str, y ≠ "__name__" → mb y = bootBuiltins y)
    (hlim : hp.NoLimit) (htop : (prog.main.scope.names.lookup ("super" : Str)).isSome = false)
    (hx : hp.get? x = some (excD C t0 none)) (Kx : K.lookup x = none) (hroom : A.depth < recursionLimit)
    (hbind : BindsTo ⟨hp, g, d, t, os⟩ fd args [("self", .ref x), ("value", v)])
    (hq : ∀ h' tk dx t1, (∀ b o, b ≠ x → hp.get? b = some o → h'.get? b = some o) → h'.get? x = some (excD C t1 (some dx)) → hp.objs.size ≤ dx → dx ≠ x →
      h'.Ns1 dx (fun y => if y = "value" then some v else none) → R (.ok (.ret .none)) ⟨h', g, d, tk, os⟩) :
    codeAny (model prog w) A (.call (.ref fI) args) R ⟨hp, g, d, t, os⟩ := by
  obtain ⟨oc, od, osl, qual, a1, a2, p1, p2, p3, p4, p5, p6, p7, p8, p9, df, dV, kV, doc, pm, an, cda, cc, ct, rfl, lf, hcd, hline, _, ⟨cl, cld, csl, lcc⟩, ccl, cdd, vs, ccs, file, tf, lcd, hvs, hfile⟩ := J.ex
  refine ks_codeAny_call_defAt (fd := ksFn "__init__" qual (iArgs a1 a2 df) (iBody p1 p2 p3 p4 p5 p6 p7 p8 p9) iScope dV kV doc pm an (.ref cda) ct cc) (body := iBody p1 p2 p3 p4 p5 p6 p7 p8 p9) (binds := [("self", .ref x), ("value", v)])
    hroom (X _ _ lf) rfl hlim (codeRec_of X hcd) rfl hbind (fun y hy => ?c0) (fun y hy => ?l0) (fun h₁ hns hk₁ => ?_) rfl rfl rfl
  case c0 =>
    have q : iScope.names.all (fun y => decide (y.2 ≠ .cell)) = true := by decide
    exact of_decide_eq_true (List.all_eq_true.mp q y hy)
  case l0 =>
    rcases List.mem_cons.mp hy with e | hy
    · rw [e]; rfl
    · rw [List.mem_singleton.mp hy]; rfl
  have X1 : K.In h₁ := X.keeps hk₁
  have gx1 := hk₁ _ _ hx
  refine ks_wpAt_execs_cons (ks_wpAt_Expr_any (ks_wpAt_MethodCall (pl := ?pl) (ks_wpAt_super_base (f := fI) (cc := cda) rfl rfl (by decide) rfl (X1 _ _ lf) rfl rfl rfl (X1 _ _ lcd) rfl hvs hfile htop ?_) ?he))
  case he =>
    show (attributeBase _ _ _ _ >>= fun ov => standAt _ >>= fun _ => methodCall _ _ _ _ _ _ _ _ _) = _
    unfold methodCall methodCallPos
    rw [hline]
    rfl
  obtain ⟨nm, q, N, bs, bm, sn, sub, ab, col, dd, k0, k1, k2, k3, k5, hC, hbm⟩ := T.ox.cls
  have hcl : clsIn K C = some { name := nm, bases := bs, mro := .ref C :: bm, ns := N, qualname := q, hasDict := true, slotNames := sn, subclasses := sub, abstract := ab, collection := col, hasDel := false } := by
    unfold clsIn
    rw [hC] <;> rfl
  have hsup := T.sup
  unfold ks_superIn at hsup
  rw [hcl, Option.bind_some] at hsup
  refine ks_loadName_global rfl rfl (loadGlobal_builtin (hgl.keeps hk₁) hsu (hbl.keeps hk₁) ((hbb _ (by decide)).trans (by decide +kernel)) ⟨rfl, ?_⟩)
  refine wpAny_loadName_free rfl rfl rfl ⟨_, X1 _ _ lcc, rfl⟩ ?_
  refine wpAny_loadName_local rfl rfl hns rfl ?_
  have hD1 := X1 _ _ hC
  refine ks_wpAny_isType_cls hD1 rfl ⟨rfl, ?_⟩
  refine ks_wpAny_call_super hD1 rfl gx1 rfl (fun c e => by cases e) (looks_mroIn X1 T.sub) (fun h2 eso k2 => ?_)
  have X2 : K.In h2 := X1.keeps k2
  have gx2 := k2 _ _ gx1
  have I2 : InstAt h2 x (excD C t0 none) C none := ⟨gx2, rfl, rfl, trivial⟩
  refine kxs_getMethod kxs_ValueError eso (looks_opaque X2 T.third) (l₀ := .ref C :: bm) ?hm0 rfl X2 hsup (I2.type.andThen (looks_subIn X2 T.isV)) (ks_ne X2 I2 hcl) (by decide) ?_
  case hm0 => exact fun A Q E s k q => wpAny_bind ((looks_clsIn X2 hcl) A _ E s k (wpAny_pure q))
  have gx3 := Heap.get?_push_of_some (kxs_mw "ValueError.__init__" x) gx2
  have gu : (h2.push (kxs_mw "ValueError.__init__" x)).get? h2.objs.size = some (kxs_mw "ValueError.__init__" x) := Heap.get?_push_size _ rfl
  have gC3 := Heap.get?_push_of_some (kxs_mw "ValueError.__init__" x) (X2 _ _ hC)
  refine kxs_callWith (i := "ValueError.__init__") (x := x) rfl (evalArgs_empty ⟨gu, ?_⟩)
  refine wpAny_call (codeAny_of_tree ?_)
  show wpAny _ _ (callAny (.ref h2.objs.size) ⟨[], []⟩) _ _ _
  simp only [callAny]
  refine wpAny_bind (wpAny_load gu ?_)
  simp only [kxs_mw, show (Value.type "method-wrapper" == Value.type "method" || Value.type "method-wrapper" == Value.type "builtin_function_or_method" || Value.type "method-wrapper" == Value.type "method-wrapper") = true by decide, if_true]
  refine KFB.if_so (by decide) ?_
  refine wpAny_bind (check_bound_init F.excBase_ValueError.toExcCallFacts gC3 gx3 rfl ?_)
  refine wpAny_bind (wpAny_pure (wpAny_pure ?_))
  refine ⟨plainId_quiet F.excBase_ValueError.init.plain _, codeAny_builtin F.excBase_ValueError.initEntry ?_⟩
  refine exc_init_tree (cls := .ref C) (t0 := t0) (dv := none) (c2 := .none) (c3 := .none) (b4 := .bool false) gx3 (Nat.zero_le _) (fun h4 k4 gx4 _ => ?_)
  have old1 : ∀ b o, b ≠ x → h₁.get? b = some o → h4.get? b = some o := fun b o ne e => k4 b o ne (Heap.get?_push_of_some _ (k2 _ _ e))
  have hxL : hp.objs.size ≠ x := Nat.ne_of_gt (Heap.lt_size hx)
  obtain ⟨oL, esL, epL, eL, rL⟩ := hns
  have hns4 : h4.Ns hp.objs.size (fun y => ([("self", Value.ref x), ("value", v)] : List (Str × Value)).reverse.lookup y) := ⟨oL, esL, epL, old1 _ _ hxL eL, rL⟩
  have X4 : K.In h4 := fun b o e => old1 b o (fun z => by rw [z, Kx] at e; cases e) (X1 _ _ e)
  show _root_.PySem.wpAt _ _ _ (execs [_] _) _ _ _
  refine ks_wpAt_execs_cons (_root_.PySem.wpAt_of_wpAny (plainObj_wpAny_Assign_Attribute ?_))
  refine wpAny_Name (wpAny_loadName_local rfl rfl hns4 rfl ?_) (by decide)
  refine wpAny_Name (wpAny_loadName_local rfl rfl hns4 rfl ?_) (by decide)
  refine set_plain X4 (ox := excD C (h2.push (kxs_mw "ValueError.__init__" x)).objs.size none) (od := none) ⟨gx4, rfl, rfl, trivial⟩ T.ox.sa ?_
  refine exc_osa X4 gx4 hcl (show refsVE (.ref C :: bm) = true from hbm) rfl T.noV (fun h5 tk5 dx k5 dn dne gx5 hn5 => ?_)
  show _root_.PySem.wpAt _ _ _ (execs [] _) _ _ _
  refine _root_.PySem.wpAt_of_wpAny (wpAny_execs_nil (hq h5 _ dx _ (fun b o ne e => k5 b o ne (old1 b o ne (hk₁ _ _ e))) gx5 ?_ dne hn5))
  exact Nat.le_of_lt (Nat.lt_of_lt_of_le hns4.lt dn)
end
end ErrA
set_option maxHeartbeats 4000000
namespace L2
namespace Q1
open PySem PySem.Spec PyProof.Rows
open ErrA (ErrK IniK)
section
variable {X : Cx} {pins : List (Addr × Obj)} {σ : St} {H : Hp} {s : Shared}
/-- two new objects laid at once -/
theorem inv_two {h' : Heap} {a d : Addr} {oa od : HO} {t' : Nat} (I : Inv X pins σ H s) (k : ∀ b o, s.heap.get? b = some o → h'.get? b = some o)
    (ha : s.heap.objs.size ≤ a) (hd : s.heap.objs.size ≤ d) (ne : d ≠ a)
    (na : ObjOk X.prog X.w (upd (upd H d od) a oa) h' a oa) (nd : ObjOk X.prog X.w (upd (upd H d od) a oa) h' d od) :
    Inv X pins σ (upd (upd H d od) a oa) { s with heap := h', toks := t' } := by
  have fa : H a = none := I.hok.fresh ha
  have fd : H d = none := I.hok.fresh hd
  have keepH : ∀ b o, H b = some o → upd (upd H d od) a oa b = some o := fun b o e => by
    rw [upd_ne (ne_of_none e fa), upd_ne (ne_of_none e fd)]
    exact e
  have old : ∀ {b : Addr} {o : Obj}, s.heap.get? b = some o → b ≠ a ∧ b ≠ d := fun e =>
    ⟨Nat.ne_of_lt (Nat.lt_of_lt_of_le (Heap.lt_size e) ha), Nat.ne_of_lt (Nat.lt_of_lt_of_le (Heap.lt_size e) hd)⟩
  have U : Un X.fs [] H (upd (upd H d od) a oa) s.heap h' := {
    keep := fun b o q _ _ _ => k b o q
    slot := fun b o q _ _ _ => ⟨o.slots, k b o q⟩
    free := fun b o q n _ => by
      rw [upd_ne (old q).1, upd_ne (old q).2]
      exact n
    there := fun b o q _ => ⟨o, k b o q⟩
    tups := fun b xs q => keepH b _ q
    frzs := fun b o v q => keepH b _ q
    tbls := fun b ps q => ⟨#[], by rw [keepH b _ q]; simp⟩ }
  refine I.un (t' := t') U fun b o q => ?_
  by_cases hb : b = a
  · subst hb
    rw [upd_same] at q
    cases q
    exact na
  · rw [upd_ne hb] at q
    by_cases hbd : b = d
    · subst hbd
      rw [upd_same] at q
      cases q
      exact nd
    · rw [upd_ne hbd] at q
      exact (I.hok b o q).stay (fun c v _ z => k c v z) (fun c z => keepH c _ z) fun c xs z => keepH c _ z
/-- an error of the class at C, its value y -/
def IsE (H : Hp) (a C : Addr) (y : V) : Prop := ∃ d, H a = some (exo a C (some d)) ∧ H d = some (exd d [(("value" : Str), y)])
/-- what is wanted of a made error -/
def rMk (C : Addr) (y : V) (H : Hp) (Q : VK) : Prop := ∀ a H', Same H H' → H a = none → IsE H' a C y → Q (.ref a) H'
theorem mg_super (I : Inv X pins σ H s) (hs : X.mg "super" = none) : True := trivial
variable {C fI : Addr} {fd : FuncData} {k : Nat}
/-- the common way: the class called, its __init__ walked, by any binding -/
theorem err_end (T : ErrK X.prog X.K C fI) (J : IniK X.prog X.K C fI fd) (hs : X.mg "super" = none) (htop : (X.prog.main.scope.names.lookup ("super" : Str)).isSome = false)
    (I : Inv X pins σ H s) {A : Around} (hroom : A.depth < recursionLimit) {y : V} {u : Value} (ry : RelV y u) {Q : VK} {us : List Value} {args : Args}
    (hb : ∀ s' : Shared, X.K.In s'.heap → BindsTo s' fd args [("self", .ref (s.heap.objs.size + 1)), ("value", u)]) (h : rMk C y H Q) :
    codeAny (model X.prog X.w) A (.call (.ref fI) args)
      (PySem.W.InitBack (s.heap.objs.size + 1) fun r s' => match r with | .ok (.ret v) => EP X pins σ Q v s' | .ok _ => False | .error e => X.xe e s')
      ⟨(s.heap.push (PySem.W.kdv_tup us)).push (HandSPX.excO C s.heap.objs.size), s.gens, s.drawn, s.toks, s.os⟩ := by
  have kk : ∀ b o, s.heap.get? b = some o → ((s.heap.push (PySem.W.kdv_tup us)).push (HandSPX.excO C s.heap.objs.size)).get? b = some o := fun b o e => Heap.get?_push_of_some _ (Heap.get?_push_of_some _ e)
  have gx : ((s.heap.push (PySem.W.kdv_tup us)).push (HandSPX.excO C s.heap.objs.size)).get? (s.heap.objs.size + 1) = some (HandSPX.excO C s.heap.objs.size) := by heap_get
  have K2 := I.kIn.keeps kk
  have Kx : X.K.lookup (s.heap.objs.size + 1) = none := by
    cases z : X.K.lookup (s.heap.objs.size + 1) with
    | none => rfl
    | some o => exact absurd (Nat.lt_of_succ_lt (Heap.lt_size (I.kIn _ _ z))) (Nat.lt_irrefl _)
  obtain ⟨mb, b1, b2⟩ := I.mod.blt
  have keepB : ∀ b o, X.base.get? b = some o → ((s.heap.push (PySem.W.kdv_tup us)).push (HandSPX.excO C s.heap.objs.size)).get? b = some o := fun b o e => kk b o (I.bk b o e)
  refine ErrA.err_init (mb := mb) T J K2 (I.mod.glob.keeps keepB) hs (b1.keeps keepB) b2 (I.mod.nolimit.keeps keepB) htop gx Kx hroom (hb _ K2) fun h' tk dx t1 k5 gx5 dn dne hn => ?_
  have sz : s.heap.objs.size ≤ s.heap.objs.size + 1 := Nat.le_succ _
  have sz2 : s.heap.objs.size ≤ dx := by
    have e : ((s.heap.push (PySem.W.kdv_tup us)).push (HandSPX.excO C s.heap.objs.size)).objs.size = s.heap.objs.size + 1 + 1 := by rw [Heap.size_push, Heap.size_push]
    rw [e] at dn
    omega
  have J2 := inv_two (oa := exo (s.heap.objs.size + 1) C (some dx)) (od := exd dx [(("value" : Str), y)]) (t' := tk) I
    (fun b o e => k5 b o (Nat.ne_of_lt (Nat.lt_succ_of_lt (Heap.lt_size e))) (kk b o e)) sz sz2 dne (exo_ok gx5) (exd_ok hn (relO_put (fs := []) ry fun g => True.intro))
  refine ⟨rfl, .ref (s.heap.objs.size + 1), _, J2, rfl, h _ _ ?_ (I.hok.fresh sz) ⟨dx, upd_same, ?_⟩⟩
  · intro b o e
    rw [upd_ne (ne_of_none e (I.hok.fresh sz)), upd_ne (ne_of_none e (I.hok.fresh sz2))]
    exact e
  · rw [upd_ne dne, upd_same]
end
end Q1
end L2
set_option maxHeartbeats 4000000
namespace L2
namespace Q1
open PySem PySem.Spec PyProof.Rows
open ErrA (ErrK IniK)
/-! ### how the parameters of an error's __init__ are bound -/
theorem ini_two {P : Program} {K : PySem.W.Frag} {C fI : Addr} {fd : FuncData} (J : IniK P K C fI fd) (s : Shared) (X : K.In s.heap) (a u : Value) : BindsTo s fd ⟨[a, u], []⟩ [("self", a), ("value", u)] := by
  obtain ⟨oc, od, osl, qual, a1, a2, p1, p2, p3, p4, p5, p6, p7, p8, p9, df, dV, kV, doc, pm, an, cda, cc, ct, rfl, _, _, _, ⟨T, o, n, rfl, lT, dT⟩, _⟩ := J.ex
  refine BindsTo.of_defaults (T := T) (o := o) (items := #[Value.none]) (n := n) rfl (X _ _ lT) dT (k := ?k) ?h1 ?h2
  case h1 => first | rfl | with_unfolding_all rfl
  case h2 => first | rfl | with_unfolding_all rfl
theorem ini_kw {P : Program} {K : PySem.W.Frag} {C fI : Addr} {fd : FuncData} (J : IniK P K C fI fd) (s : Shared) (X : K.In s.heap) (a u : Value) : BindsTo s fd ⟨[a], [("value", u)]⟩ [("self", a), ("value", u)] := by
  obtain ⟨oc, od, osl, qual, a1, a2, p1, p2, p3, p4, p5, p6, p7, p8, p9, df, dV, kV, doc, pm, an, cda, cc, ct, rfl, _, _, _, ⟨T, o, n, rfl, lT, dT⟩, _⟩ := J.ex
  refine BindsTo.of_defaults (T := T) (o := o) (items := #[Value.none]) (n := n) rfl (X _ _ lT) dT (k := ?k) ?h1 ?h2
  case h1 => first | rfl | with_unfolding_all rfl
  case h2 => first | rfl | with_unfolding_all rfl
theorem ini_one {P : Program} {K : PySem.W.Frag} {C fI : Addr} {fd : FuncData} (J : IniK P K C fI fd) (s : Shared) (X : K.In s.heap) (a : Value) : BindsTo s fd ⟨[a], []⟩ [("self", a), ("value", .none)] := by
  obtain ⟨oc, od, osl, qual, a1, a2, p1, p2, p3, p4, p5, p6, p7, p8, p9, df, dV, kV, doc, pm, an, cda, cc, ct, rfl, _, _, _, ⟨T, o, n, rfl, lT, dT⟩, _⟩ := J.ex
  refine BindsTo.of_defaults (T := T) (o := o) (items := #[Value.none]) (n := n) rfl (X _ _ lT) dT (k := ?k) ?h1 ?h2
  case h1 => first | rfl | with_unfolding_all rfl
  case h2 => first | rfl | with_unfolding_all rfl
section
variable {X : Cx} {C fI : Addr} {fd : FuncData} {x : Str} {e : Expr} {te : TE} {p pos kpos : Pos} {k : Nat}
/-- what a body needs of an error's class -/
structure ErrX (X : Cx) (x : Str) (C : Addr) : Prop where
  gC : X.mg x = some (.ref C)
  su : X.mg "super" = none
  top : (X.prog.main.scope.names.lookup ("super" : Str)).isSome = false
  ex : ∃ fI fd, ErrK X.prog X.K C fI ∧ IniK X.prog X.K C fI fd
theorem pe_err1 (T : ErrX X x C) (hr : Room (k + 1) X.A) (hg : Gl X x) (he : PE X e te)
    (hs : starEach [e] X.env = (false, eval e X.env) :: starEach [] X.env := by rfl) (hdb : (x == ("__debug__" : Str)) = false := by decide) :
    PE X (.Call (.Name x p) [e] [] pos) (fun σ H Q => te σ H fun y H1 => rMk C y H1 Q) := by
  obtain ⟨fI, fd, TK, J⟩ := T.ex
  obtain ⟨nm, q, N, bs, bm, sn, sub, ab, col, dd, k0, k1, k2, k3, k5, hC, hbm⟩ := TK.ox.cls
  refine ⟨fun pins s σ H Q I h => ?_⟩
  refine wpAny_Call_Name_kw (ld_glob I hg T.gC ?_ hdb)
  refine PySem.W.callWith_K (h₀ := X.base) I.ok.mod.kin TK.ox.kC ?_ hs (by rfl)
  rw [hs]
  show wpAny _ _ (spliced ((false, eval e X.env) :: backTo pos (starEach [] X.env))) _ _ s
  refine Calls.spliced_cons (thn (he.run pins s σ H _ I h) fun u s1 ⟨v, H1, I1, r1, q1⟩ => ?_)
  refine Calls.spliced_nil ⟨I1.kIn, ?_⟩
  show wpAny _ _ (call (.ref C) [u]) _ _ _
  refine wpAny_call (HandSPX.call_own F.excBase_ValueError (fun Y => HandSPX.refsVE_contains Y bm hbm) (I1.kIn _ _ hC) (PySem.W.looks_findIn I1.kIn TK.iC) (fun self => PySem.W.bind_fn I1.kIn self TK.tI) (by show 1 ≤ sizeLine; rw [sizeLine_eq]; omega) ?_)
  exact err_end (us := [u]) TK J T.su T.top I1 (hr.make C [u] []).depth r1 (fun s' X' => ini_two J s' X' _ _) q1
theorem pe_errK (T : ErrX X x C) (hr : Room (k + 1) X.A) (hg : Gl X x) (he : PE X e te) (hdb : (x == ("__debug__" : Str)) = false := by decide) :
    PE X (.Call (.Name x p) [] [⟨some "value", e, kpos⟩] pos) (fun σ H Q => te σ H fun y H1 => rMk C y H1 Q) := by
  obtain ⟨fI, fd, TK, J⟩ := T.ex
  obtain ⟨nm, q, N, bs, bm, sn, sub, ab, col, dd, k0, k1, k2, k3, k5, hC, hbm⟩ := TK.ox.cls
  refine ⟨fun pins s σ H Q I h => ?_⟩
  refine wpAny_Call_Name_kw (ld_glob I hg T.gC ?_ hdb)
  have hk := (pk_cons (nm := some "value") (kpos := kpos) he pk_nil).run pos pins s σ H (fun vs H1 => match vs with | [y] => rMk C y H1 Q | _ => False) I h
  refine PySem.W.callWith_KW0 (h₀ := X.base) I.ok.mod.kin TK.ox.kC rfl (thn hk fun us s1 ⟨vs, H1, I1, r1, q1⟩ => ⟨I1.kIn, ?_⟩)
  cases r1 with
  | nil => exact q1.elim
  | @cons y u ys us r1 rr =>
    cases rr with
    | cons _ _ => exact q1.elim
    | nil =>
      show wpAny _ _ (call (.ref C) [] [("value", u)]) _ _ _
      refine wpAny_call (ErrA.call_kw F.excBase_ValueError (fun Y => HandSPX.refsVE_contains Y bm hbm) (I1.kIn _ _ hC) (PySem.W.looks_findIn I1.kIn TK.iC) (fun self => PySem.W.bind_fn I1.kIn self TK.tI) ?_)
      exact err_end (us := []) TK J T.su T.top I1 (hr.make C [] [("value", u)]).depth r1 (fun s' X' => ini_kw J s' X' _ _) q1
theorem pe_err0 (T : ErrX X x C) (hr : Room (k + 1) X.A) (hg : Gl X x) (hdb : (x == ("__debug__" : Str)) = false := by decide) :
    PE X (.Call (.Name x p) [] [] pos) (fun _ H Q => rMk C .non H Q) := by
  obtain ⟨fI, fd, TK, J⟩ := T.ex
  obtain ⟨nm, q, N, bs, bm, sn, sub, ab, col, dd, k0, k1, k2, k3, k5, hC, hbm⟩ := TK.ox.cls
  refine ⟨fun pins s σ H Q I h => ?_⟩
  refine wpAny_Call_Name_kw (ld_glob I hg T.gC ?_ hdb)
  refine PySem.W.callWith_K0 I.kIn TK.ox.kC ?_
  show wpAny _ _ (call (.ref C) []) _ _ _
  refine wpAny_call (HandSPX.call_own F.excBase_ValueError (fun Y => HandSPX.refsVE_contains Y bm hbm) (I.kIn _ _ hC) (PySem.W.looks_findIn I.kIn TK.iC) (fun self => PySem.W.bind_fn I.kIn self TK.tI) (Nat.zero_le _) ?_)
  exact err_end (us := []) TK J T.su T.top I (hr.make C [] []).depth (y := .non) rfl (fun s' X' => ini_one J s' X' _) h
end
/-! ### errors without an own __init__ -/
/-- an error whose class is at C, with its value or without -/
def IsE0 (H : Hp) (a C : Addr) : Prop := (∃ y, IsE H a C y) ∨ H a = some (exo a C none)
theorem pe_errB {X : Cx} {C : Addr} {x : Str} {p pos : Pos} (q : PySem.W.excIn X.K C [.type "ValueError", .type "Exception", .type "BaseException", .type "object"] "ValueError.__new__" = true)
    (gC : X.mg x = some (.ref C)) (kC : PySem.W.keepIn X.K (.ref C) = true) (hg : Gl X x) (hdb : (x == ("__debug__" : Str)) = false := by decide) :
    PE X (.Call (.Name x p) [] [] pos) (fun _ H Q => ∀ a, H a = none → Q (.ref a) (upd H a (exo a C none))) := by
  refine ⟨fun pins s σ H Q I h => ?_⟩
  refine wpAny_Call_Name_kw (ld_glob I hg gC ?_ hdb)
  refine PySem.W.callWith_K0 I.kIn kC ?_
  show wpAny _ _ (call (.ref C) []) _ _ _
  obtain ⟨bm, N, nm, qn, bs, hdct, sn, sub, ab, col, dd, k0, k1, k2, k3, k5, mN, hC, hN, hni, T⟩ := exc_obj I.kIn q
  refine wpAny_call_exc_subT F.excBase_ValueError T hC hN hni (fun h' a hm => ?_) (Nat.zero_le _)
  have hn : H a = none := I.hok.gone hm.new
  obtain ⟨t, ht, _, _⟩ := hm.there
  exact ⟨.ref a, upd H a (exo a C none), I.laidN hm.keeps hm.new hn (exo_ok ht), rfl, h a hn⟩
/-! ### an error's value; isinstance -/
/-- what the written part says of the class of an error that is looked at -/
structure ErrG (K : PySem.W.Frag) (C : Addr) : Prop where
  hcl : (PySem.W.clsIn K C).isSome = true
  ga : PySem.W.findIn K (.ref C) "__getattribute__" = some (some (.builtin "BaseException.__getattribute__"))
  gg : PySem.W.findIn K (.ref C) "__getattr__" = some none
  exC : PySem.W.subIn K (.ref C) (.type "BaseException") = some true
  hdC : PySem.W.hasDictIn K C = true
  ha : PySem.W.findIn K (.ref C) "__class__" = some (some (.builtin "object.__class__"))
  hn : PySem.W.specialIn K (.builtin "object.__class__") "__get__" = some (some (.builtin "getset_descriptor.__get__"))
  ht : PySem.W.takesIn K (.builtin "object.__class__") = some true
  hm : PySem.W.mroIn K C (.type "object") = some true
section
variable {X : Cx} {pins : List (Addr × Obj)} {σ : St} {H : Hp} {s : Shared} {a C : Addr} {e : Expr} {te : TE} {pos : Pos}
theorem isE_inst (I : Inv X pins σ H s) {y : V} (h : IsE H a C y) : ∃ (ox od : Obj) (mA : Str → Option Value), PySem.W.InstAt s.heap a ox C (some od) ∧ (∀ name, PySem.W.lookIn name od = some (mA name)) ∧ ∀ f, RelO (List.lookup f [(("value" : Str), y)]) (mA f) := by
  obtain ⟨d, ha, hd⟩ := h
  obtain ⟨t, ho⟩ := exo_at I.hok ha
  obtain ⟨mA, hns, hr⟩ := exd_at I.hok hd
  obtain ⟨od, hod, hl⟩ := lookIn_ns hns
  exact ⟨_, od, mA, ⟨ho, rfl, rfl, hod⟩, hl, hr⟩
def tVal (K : PySem.W.Frag) (te : TE) : TE := fun σ H Q => te σ H fun x H1 => ∃ a C y, x = .ref a ∧ IsE H1 a C y ∧ ErrG K C ∧ PySem.W.findIn K (.ref C) "value" = some none ∧ Q y H1
theorem pe_val (he : PE X e te) (hb : attributeBase e "value" X.env (eval e X.env) = eval e X.env := by rfl) : PE X (.Attribute e "value" pos) (tVal X.K te) := by
  refine ⟨fun pins s σ H Q I h => ?_⟩
  refine attr_of hb (thn (he.run pins s σ H _ I h) fun u s1 hh => ?_)
  obtain ⟨x, H1, I1, rx, a, C, y, ex, ie, T, hno, q⟩ := hh
  subst ex
  obtain rfl : u = Value.ref a := rx
  obtain ⟨ox, od, mA, J, hl, hr⟩ := isE_inst I1 ie
  obtain ⟨u, hu, ru⟩ := RelO.some_of (v := y) (o := mA "value") (by have := hr "value"; simpa [List.lookup] using this)
  exact HandSPX.exc_get I1.kIn J T.ga T.gg T.exC (PySem.W.findObj_own T.hdC hno rfl (by rw [hl, hu])) (handed_of ru) ⟨y, H1, I1.tok _, ru, q⟩
/-- isinstance(e, c) of an error -/
def rIsErr (K : PySem.W.Frag) : List V → Hp → VK → Prop := fun xs H Q => ∃ (a D : Addr) (c : V) (cv : Value) (b : Bool), xs = [.ref a, c] ∧ IsE0 H a D ∧ ErrG K D ∧ (∀ u, RelV c u → u = cv) ∧ PySem.W.kitOne K (.ref D) cv = some b ∧ Q (.bl b) H
theorem call_isErr : CallR X (.builtin "isinstance") (rIsErr X.K) := by
  intro pins s σ H xs us Q I r h
  obtain ⟨a, D, c, cv, b, rfl, ie, T, hcv, e, q⟩ := h
  cases r with
  | cons rx rr =>
    cases rr with
    | cons rt rr =>
      cases rr
      cases rx
      have ec := hcv _ rt
      subst ec
      have J : ∃ ox od, PySem.W.InstAt s.heap a ox D od := by
        rcases ie with ⟨y, ie⟩ | ie
        · obtain ⟨ox, od, _, J, _⟩ := isE_inst I ie
          exact ⟨ox, some od, J⟩
        · obtain ⟨t, ho⟩ := exo_at I.hok ie
          exact ⟨_, none, ho, rfl, rfl, trivial⟩
      obtain ⟨ox, od, J⟩ := J
      exact PySem.W.kia_one (PySem.W.kitx_exc T.hcl T.ga T.gg T.exC T.ha T.hn T.ht T.hm) I.kIn J e (fun z => nomatch z) fun tk => ⟨.bl b, H, I.kept (t' := tk) fun _ _ z => z, rfl, q⟩
end
end Q1
end L2
set_option maxHeartbeats 4000000
namespace L2
namespace Q1
open PySem PySem.Spec PyProof.Rows
open PySem.W (Frag nsIn findIn typeIn subIn mroIn clsIn keepIn codeIn specialIn takesIn hasDictIn ks_superIn)
open ErrA (ErrK IniK)
/-- where a global name's object stands -/
def adr (K : Frag) (x : Str) : Addr := match nsIn K mainGlobals x with
  | some (some (.ref a)) => a
  | _ => 0
def isAt (K : Frag) (x : Str) : Bool := match nsIn K mainGlobals x with
  | some (some (.ref _)) => true
  | _ => false
theorem isAt_ok {K : Frag} {x : Str} (h : isAt K x = true) : nsIn K mainGlobals x = some (some (.ref (adr K x))) := by
  unfold isAt at h
  unfold adr
  split at h
  · rename_i a e
    rw [e]
  · cases h
def initAt (K : Frag) (C : Addr) : Addr := match findIn K (.ref C) "__init__" with
  | some (some (.ref a)) => a
  | _ => 0
/-- the class object of an error over ValueError -/
def clsB (K : Frag) (C : Addr) : Bool := match K.lookup C with
  | some ⟨.type "type", _, .cls cd, sl⟩ => (match cd.mro, sl.toList with
    | .ref C' :: bm, [_, _, _, _, some (.builtin n), _] => C' == C && n == "ValueError.__new__" && !cd.hasDel && cd.hasDict && HandSPX.refsVE bm
    | _, _ => false)
  | _ => false
theorem clsB_ok {K : Frag} {C : Addr} (q : clsB K C = true) : ∃ nm q N bs bm sn sub ab col dd k0 k1 k2 k3 k5,
    K.lookup C = some (excClassObj nm q C N bs bm true sn sub ab col dd k0 k1 k2 k3 k5 "ValueError.__new__") ∧ HandSPX.refsVE bm = true := by
  unfold clsB at q
  split at q
  · rename_i dd cd sl ho
    split at q
    · rename_i C' bm k0 k1 k2 k3 n k5 hm hs
      simp only [Bool.and_eq_true, beq_iff_eq, Bool.not_eq_true'] at q
      obtain ⟨⟨⟨⟨rfl, rfl⟩, hdel⟩, hdc⟩, ht⟩ := q
      obtain ⟨nm, bs, mro, ns, qn, hd, sn, sub, ab, col, del⟩ := cd
      dsimp only at hm hdel hdc
      subst hm hdel hdc
      have hsl : sl = #[k0, k1, k2, k3, some (.builtin "ValueError.__new__"), k5] := by
        obtain ⟨l⟩ := sl
        simp only at hs
        rw [hs]
      subst hsl
      exact ⟨nm, qn, ns, bs, bm, sn, sub, ab, col, dd, k0, k1, k2, k3, k5, ho, ht⟩
    · cases q
  · cases q
def errKB (K : Frag) (C : Addr) : Bool :=
  clsB K C && findIn K (.ref C) "__setattr__" == some (some (.builtin "object.__setattr__")) && subIn K (.ref C) (.type "BaseException") == some true && typeIn K (.ref C) == some (.type "type") &&
  keepIn K (.ref C) && findIn K (.ref C) "value" == some none && findIn K (.ref C) "__init__" == some (some (.ref (initAt K C))) && typeIn K (.ref (initAt K C)) == some (.type "function") &&
  ks_superIn K C C "__init__" == some (some (.builtin "ValueError.__init__")) && mroIn K C (.ref C) == some true && subIn K (.ref C) (.type "ValueError") == some true &&
  nsIn K cStatics "thirdparty.any" == some none
def errGB (K : Frag) (C : Addr) : Bool :=
  (clsIn K C).isSome && findIn K (.ref C) "__getattribute__" == some (some (.builtin "BaseException.__getattribute__")) && findIn K (.ref C) "__getattr__" == some none &&
  subIn K (.ref C) (.type "BaseException") == some true && hasDictIn K C && findIn K (.ref C) "__class__" == some (some (.builtin "object.__class__")) &&
  specialIn K (.builtin "object.__class__") "__get__" == some (some (.builtin "getset_descriptor.__get__")) && takesIn K (.builtin "object.__class__") == some true && mroIn K C (.type "object") == some true
theorem errGB_ok {K : Frag} {C : Addr} (h : errGB K C = true) : ErrG K C := by
  unfold errGB at h
  simp only [Bool.and_eq_true, beq_iff_eq] at h
  obtain ⟨⟨⟨⟨⟨⟨⟨⟨h1, h2⟩, h3⟩, h4⟩, h5⟩, h6⟩, h7⟩, h8⟩, h9⟩ := h
  exact ⟨h1, h2, h3, h4, h5, h6, h7, h8, h9⟩
theorem errKB_ok {P : Program} {K : Frag} {C : Addr} (h : errKB K C = true) : ErrK P K C (initAt K C) := by
  unfold errKB at h
  simp only [Bool.and_eq_true, beq_iff_eq] at h
  obtain ⟨⟨⟨⟨⟨⟨⟨⟨⟨⟨⟨h1, h2⟩, h3⟩, h4⟩, h5⟩, h6⟩, h7⟩, h8⟩, h9⟩, h10⟩, h11⟩, h12⟩ := h
  exact ⟨⟨clsB_ok h1, h2, h3, h4, h5⟩, h6, h7, h8, h9, h10, h11, h12⟩
/-- a body as each error's __init__ has it -/
def bodyB : List Stmt → Bool
  | [.Expr (.Call (.Attribute (.Call (.Name n1 _) [] [] _) n2 p3) [] [] p4) _, .Assign [.Attribute (.Name n3 _) n4 _] (.Name n5 _) _] =>
    n1 == ("super" : Str) && n2 == ("__init__" : Str) && n3 == ("self" : Str) && n4 == ("value" : Str) && n5 == ("value" : Str) && p3.endLine == p4.line
  | _ => false
theorem bodyB_ok {b : List Stmt} (h : bodyB b = true) : ∃ p1 p2 p3 p4 p5 p6 p7 p8 p9, b = ErrA.iBody p1 p2 p3 p4 p5 p6 p7 p8 p9 ∧ (p3.endLine == p4.line) = true := by
  unfold bodyB at h
  split at h
  · simp only [Bool.and_eq_true, beq_iff_eq] at h
    obtain ⟨⟨⟨⟨⟨rfl, rfl⟩, rfl⟩, rfl⟩, rfl⟩, h6⟩ := h
    exact ⟨_, _, _, _, _, _, _, _, _, rfl, beq_iff_eq.mpr h6⟩
  · cases h
def argsB : Arguments → Bool
  | ⟨[], [⟨a1, none, _⟩, ⟨a2, none, _⟩], none, [], [], none, _⟩ => a1 == ("self" : Str) && a2 == ("value" : Str)
  | _ => false
theorem argsB_ok {a : Arguments} (h : argsB a = true) : ∃ a1 a2 df, a = ErrA.iArgs a1 a2 df := by
  unfold argsB at h
  split at h
  · simp only [Bool.and_eq_true, beq_iff_eq] at h
    obtain ⟨rfl, rfl⟩ := h
    exact ⟨_, _, _, rfl⟩
  · cases h
def iniB (file : Str) (K : Frag) (C fI : Addr) : Bool := match K.lookup fI with
  | some ⟨_, _, .func ⟨nm, q, ps, .stmts b, sc, g, [(c1, cc)], .ref T, _, _, _, _, .ref cda, _, bl⟩, _⟩ =>
    nm == ("__init__" : Str) && c1 == ("__class__" : Str) && g == mainGlobals && bl == builtinsNs && argsB ps && bodyB b && decide (sc = ErrA.iScope) && codeIn K (.ref cda) q &&
    (match K.lookup T with | some ⟨_, _, .seq its _, _⟩ => (match its.toList with | [.none] => true | _ => false) | _ => false) &&
    (match K.lookup cc with | some ⟨_, _, .cell (some (.ref D)), _⟩ => D == C | _ => false) &&
    (match K.lookup cda with | some ⟨_, _, .fields vs, _⟩ => (match (vs[2]? : Option Value) with | some (.str f _) => file == f | _ => false) | _ => false)
  | _ => false
def fdAt (K : Frag) (fI : Addr) : FuncData := match K.lookup fI with
  | some ⟨_, _, .func fd, _⟩ => fd
  | _ => default
theorem iniB_ok {P : Program} {K : Frag} {C fI : Addr} (h : iniB P.main.file K C fI = true) : IniK P K C fI (fdAt K fI) := by
  unfold iniB at h
  unfold fdAt
  split at h
  · rename_i oc od nm q ps b sc g c1 cc T kV doc pm an cda ct bl osl e
    rw [e]
    simp only [Bool.and_eq_true, beq_iff_eq, decide_eq_true_eq] at h
    obtain ⟨⟨⟨⟨⟨⟨⟨⟨⟨⟨rfl, rfl⟩, rfl⟩, rfl⟩, ha⟩, hb⟩, rfl⟩, hcd⟩, hT⟩, hc⟩, hf⟩ := h
    obtain ⟨a1, a2, df, rfl⟩ := argsB_ok ha
    obtain ⟨p1, p2, p3, p4, p5, p6, p7, p8, p9, rfl, hl⟩ := bodyB_ok hb
    refine ⟨oc, od, osl, q, a1, a2, p1, p2, p3, p4, p5, p6, p7, p8, p9, df, .ref T, kV, doc, pm, an, cda, cc, ct, rfl, e, hcd, hl, ?_, ?_, ?_⟩
    · split at hT
      · rename_i its n osT eT
        split at hT
        · rename_i ei
          have e2 : its = #[Value.none] := by
            obtain ⟨l⟩ := its
            simp only at ei
            rw [ei]
          subst e2
          exact ⟨T, _, _, rfl, eT, rfl⟩
        · cases hT
      · cases hT
    · split at hc
      · rename_i ec
        have hc := beq_iff_eq.mp hc
        subst hc
        exact ⟨_, _, _, ec⟩
      · cases hc
    · split at hf
      · rename_i ef
        split at hf
        · rename_i ev
          exact ⟨_, _, _, _, _, _, ef, ev, hf⟩
        · cases hf
      · cases hf
  · cases h
end Q1
end L2
set_option maxHeartbeats 4000000
/-! What a def promises where no repr is under way (guards told); its entry, its calls. -/
namespace L2
namespace Q1
open PySem PySem.Spec PyProof.Rows
/-- a def's promise; the guards of the stack are told, too -/
structure FnG (P : Program) (w : World) (K : PySem.W.Frag) (mg : Str → Option Value) (base : Heap) (k : Nat) (f : Addr) (fd : FuncData) (ps : List Str) (sp : Sp) : Prop where
  len : ∀ vs H Q E, sp vs H Q E → vs.length = ps.length
  run : ∀ (A : Around) (outer : List Env) (s : Shared) (H : Hp) (args : Args) (us : List Value) (vs : List V) (Q : VK) (E : XK),
    Room k A → A.guards = some [] → Env0 P w K mg base A outer s H → BindsTo s fd args (ps.zip us) → Vals vs us → sp vs H Q E →
    codeAny (model P w) A (.call (.ref f) args) (CR (L2.CX P w) outer P w H s Q E) s
theorem FnG.mono {P : Program} {w : World} {K : PySem.W.Frag} {mg : Str → Option Value} {base : Heap} {j k : Nat} {f : Addr} {fd : FuncData} {ps : List Str} {sp : Sp}
    (F : FnG P w K mg base j f fd ps sp) (h : j ≤ k) : FnG P w K mg base k f fd ps sp :=
  ⟨F.len, fun A outer s H args us vs Q E hr => F.run A outer s H args us vs Q E (hr.mono h)⟩
theorem FnG.imp {P : Program} {w : World} {K : PySem.W.Frag} {mg : Str → Option Value} {base : Heap} {k : Nat} {f : Addr} {fd : FuncData} {ps : List Str} {sp sp' : Sp}
    (F : FnG P w K mg base k f fd ps sp) (h : ∀ vs H Q E, sp' vs H Q E → sp vs H Q E) : FnG P w K mg base k f fd ps sp' :=
  ⟨fun vs H Q E q => F.len vs H Q E (h _ _ _ _ q), fun A outer s H args us vs Q E hr hg he hb hv hs => F.run A outer s H args us vs Q E hr hg he hb hv (h _ _ _ _ hs)⟩
theorem fnG_of {P : Program} {w : World} {K : PySem.W.Frag} {mg : Str → Option Value} {base : Heap} {k : Nat} {f : Addr} {name qual : Str} {params : Arguments} {body : List Stmt} {scope : Scope}
    {dV kV doc pm cdv ct oc : Value} {an od : Option Addr} {osl : Array (Option Value)} {N ps : List Str} {sp : Sp}
    (lk : K.lookup f = some ⟨oc, od, .func (PySem.W.fnOf name qual params body scope dV kV doc pm an cdv ct), osl⟩) (hcd : PySem.W.codeIn K cdv qual = true) (S : FnScope N ps scope)
    (len : ∀ vs H Q E, sp vs H Q E → vs.length = ps.length)
    (hbody : ∀ (A : Around) (outer : List Env) (s : Shared) (H : Hp) (vs : List V) (Q : VK) (E : XK),
      Room k (A.deeper (envOfC qual scope s.heap.objs.size f cdv)) → A.guards = some [] → sp vs H Q E →
      ∃ t, PSs (cxOf (L2.CX P w) P w K mg base N qual scope f cdv A outer s H E) body t ∧ t { nx := fun _ H' => Q .non H', rt := Q } (start N vs) H) :
    FnG P w K mg base (k + 1) f (PySem.W.fnOf name qual params body scope dV kV doc pm an cdv ct) ps sp := by
  refine ⟨len, fun A outer s H args us vs Q E hr hgd e0 hb r hsp => ?_⟩
  have vl := len _ _ _ _ hsp
  have up : ∀ b o, base.get? b = some o → s.heap.get? b = some o := fun b o e => (e0.bs b o e).1
  have KX : K.In s.heap := e0.mod.kin.keeps up
  have nol : s.heap.NoLimit := e0.mod.nolimit.keeps up
  have kinds : ∀ y ∈ ps.zip us, scope.names.lookup y.1 = some .local ∨
      (scope.names.lookup y.1 = some .cell ∧ ((cellsFrom (s.heap.objs.size + 1) scope.names []).lookup y.1).isSome = true) := fun ⟨n, v⟩ hy => by
    rcases S.par n (List.of_mem_zip hy).1 with q | q
    · exact .inl q
    · exact .inr ⟨q, PySem.W.cellsFrom_some _ _ _ (.inl q)⟩
  refine codeAny_call_function hr.depth (KX _ _ lk) rfl S.co S.gen rfl (PySem.W.codeRec_of KX hcd) (hb _ _ _ _ ?_)
  refine wpAny_newFunctionEnv_cells S.kind kinds fun env he s1 x => ?_
  subst he
  refine ⟨nol.keeps x.toInCall.keep, codeAny_func ?_⟩
  obtain ⟨t, ht, hq⟩ := hbody A outer s H vs Q E (hr.deeper _) hgd hsp
  have I : Inv (cxOf (L2.CX P w) P w K mg base N qual scope f cdv A outer s H E) [] (start N vs) H s1 := inv_start S hr.hd e0 vl r x
  refine wpAny_mono (ht.run [] s1 (start N vs) H _ I hq) (fun fl s' hs => ?_) fun e s' hs => hs
  cases fl with
  | ret u =>
    obtain ⟨v, σ', H', J, rv, q⟩ := hs
    exact ⟨v, H', J.os, J.bare, J.base, J.hok, rv, q⟩
  | next =>
    obtain ⟨σ', H', J, q⟩ := hs
    exact ⟨.non, H', J.os, J.bare, J.base, J.hok, rfl, q⟩
  | brk =>
    obtain ⟨_, _, _, q⟩ := hs
    exact q.elim
  | cont =>
    obtain ⟨_, _, _, q⟩ := hs
    exact q.elim
/-- a def of the text, its body as a term of rules -/
theorem fun_ok {P : Program} {w : World} {K : PySem.W.Frag} {mg : Str → Option Value} {base : Heap} {x qual : Str} {st : Stmt} {f : Addr} {fd : FuncData} {N ps : List Str} {k : Nat} {sp : Sp}
    (F : Fun K x qual st f fd) (S : FnScope N ps (defScope st)) (len : ∀ vs H Q E, sp vs H Q E → vs.length = ps.length)
    (hbody : ∀ (cdv : Value) (A : Around) (outer : List Env) (s : Shared) (H : Hp) (vs : List V) (Q : VK) (E : XK),
      Room k (A.deeper (envOfC qual (defScope st) s.heap.objs.size f cdv)) → A.guards = some [] → sp vs H Q E →
      ∃ t, PSs (cxOf (L2.CX P w) P w K mg base N qual (defScope st) f cdv A outer s H E).nox (defBody st) t ∧ t { nx := fun _ H' => Q .non H', rt := Q } (start N vs) H) :
    FnG P w K mg base (k + 1) f fd ps sp := by
  obtain ⟨oc, od, kV, doc, pm, an, cdv, ct, osl, rfl, lk, hcd⟩ := F.ex
  refine fnG_of lk hcd S len fun A outer s H vs Q E hr hg hsp => ?_
  obtain ⟨t, h, q⟩ := hbody cdv A outer s H vs Q E hr hg hsp
  exact ⟨t, h.nox, q⟩
section
variable {X : Cx} {k : Nat} {f : Addr} {fd : FuncData} {ps : List Str} {sp : Sp} {dvs : List V} {ds : List Value} {E : XK} {x : Str} {p pos : Pos} {e : Expr} {es : List Expr} {t : TA}
theorem run_fnG {pins : List (Addr × Obj)} {σ : St} {H : Hp} {s : Shared} {Q : VK} {us : List Value} {vs : List V} (F : FnG X.prog X.w X.K X.mg X.base k f fd ps sp) (hr : Room k X.A) (hgd : X.A.guards = some [])
    (hb : Binds X.K fd ps ds) (hd : Vals dvs ds) (hx : Passes (L2.CX X.prog X.w) X E) (I : Inv X pins σ H s) (r : Vals vs us) (h : sp (vs ++ dvs) H Q E) :
    wpAny (model X.prog X.w) X.A (call (.ref f) us) (EP X pins σ Q) X.xe s := by
  have r2 : Vals (vs ++ dvs) (us ++ ds) := r.append hd
  have ul : (us ++ ds).length = ps.length := by
    rw [← r2.length]
    exact F.len _ _ _ _ h
  refine wpAny_call (codeAny_mono (F.run X.A X.stack s H ⟨us, []⟩ (us ++ ds) (vs ++ dvs) Q E hr hgd I.env0 (hb s us I.kIn ul) r2 h) fun r s' hq => ?_)
  cases r with
  | error e => exact hx pins σ H s e s' I hq
  | ok fl =>
    cases fl with
    | ret u => exact I.after hq
    | next => exact hq.elim
    | brk => exact hq.elim
    | cont => exact hq.elim
theorem pe_callG (F : FnG X.prog X.w X.K X.mg X.base k f fd ps sp) (hr : Room k X.A) (hgd : X.A.guards = some []) (hg : Gl X x) (hm : X.mg x = some (.ref f)) (hk : PySem.W.keepIn X.K (.ref f) = true)
    (hb : Binds X.K fd ps ds) (hd : Vals dvs ds) (hx : Passes (L2.CX X.prog X.w) X E) (ha : PA X (e :: es) t) (hdb : (x == ("__debug__" : Str)) = false := by decide)
    (he : starEach (e :: es) X.env = (false, eval e X.env) :: starEach es X.env := by rfl) (hpl : (backTo pos (starEach es X.env)).any (·.1) = false := by rfl) :
    PE X (.Call (.Name x p) (e :: es) [] pos) (tCall sp dvs E t) := by
  refine ⟨fun pins s σ H Q I h => ?_⟩
  refine wpAny_Call_Name_kw (ld_glob I hg hm ?_ hdb)
  exact PySem.W.callWith_K (h₀ := X.base) I.ok.mod.kin hk (thn (ha.run pos pins s σ H _ I h) fun us s1 ⟨vs, H1, I1, r, q⟩ => ⟨I1.kIn, run_fnG F hr hgd hb hd hx I1 r q⟩) he hpl
theorem pe_callG0 (F : FnG X.prog X.w X.K X.mg X.base k f fd ps sp) (hr : Room k X.A) (hgd : X.A.guards = some []) (hg : Gl X x) (hm : X.mg x = some (.ref f)) (hk : PySem.W.keepIn X.K (.ref f) = true)
    (hb : Binds X.K fd ps ds) (hd : Vals dvs ds) (hx : Passes (L2.CX X.prog X.w) X E) (hdb : (x == ("__debug__" : Str)) = false := by decide) :
    PE X (.Call (.Name x p) [] [] pos) (tCall sp dvs E tNil) := by
  refine ⟨fun pins s σ H Q I h => ?_⟩
  refine wpAny_Call_Name_kw (ld_glob I hg hm ?_ hdb)
  exact PySem.W.callWith_K0 I.kIn hk (run_fnG (us := []) F hr hgd hb hd hx I .nil h)
end
end Q1
end L2
set_option maxHeartbeats 4000000
/-! The law's own call, from its promise with guards told. -/
namespace L2
namespace Q1
open PySem PySem.Spec PyProof.Rows
theorem law_callG {P : Program} {w : World} {K : PySem.W.Frag} {mg mb : Str → Option Value} {k : Nat} {fa a : Addr} {fd : FuncData} {x : Str} {sp : Sp} {s1 : Shared} {vs : List Value} {ns : List Int}
    (kx : K.In s1.heap) (gns : s1.heap.Ns mainGlobals mg) (blt0 : s1.heap.Ns builtinsNs mb) (bbt : ∀ x : Str, x ≠ "__name__" → mb x = bootBuiltins x) (nol : s1.heap.NoLimit) (gen0 : s1.gens = #[])
    (ha : s1.heap.get? a = some { cls := .type "list", data := .seq vs.toArray }) (intsA : IntsAre vs ns) (hl : ns.length ≤ sizeLine) (hr : Room k callerA)
    (F : ∀ base : Heap, K.In base → base.Ns mainGlobals mg → FnG P w K mg base k fa fd [x] sp) (bnd : ∀ (s : Shared) (u : Value), BindsTo s fd ⟨[u], []⟩ [(x, u)])
    (psp : ∀ H : Hp, Only H → SqL K H a (ns.map V.int) → sp [.ref a] H (fun v _ => v = .bl true) fun _ _ _ => False) :
    codeAny (model P w) callerA (.call (.ref fa) ⟨[.ref a], []⟩) (fun r s' => r = .ok (.ret (.bool true)) ∧ OldK s1.heap s'.heap ∧ s'.os = s1.os ∧ AllBare s'.gens) s1 := by
  have rel := vals_ints intsA
  have len0 := intsA.length
  -- the main way
  have main : ∀ H : Hp, Only H → SqL K H a (ns.map V.int) → HOk P w H s1.heap → (∀ b, H b ≠ none → b = a) → (H a ≠ none → K.lookup a = none) →
      codeAny (model P w) callerA (.call (.ref fa) ⟨[.ref a], []⟩) (fun r s' => r = .ok (.ret (.bool true)) ∧ OldK s1.heap s'.heap ∧ s'.os = s1.os ∧ AllBare s'.gens) s1 := by
    intro H only sq hok0 oneA notK
    have inBase : ∀ {b : Addr} {o : Obj}, s1.heap.get? b = some o → H b = none → (hidT s1.heap H).get? b = some o := fun e n => hidT_get e n
    have noDict : ∀ {b : Addr} {o : Obj} {es : Array DictEntry} {ep : Nat}, s1.heap.get? b = some o → o.data = .dict es ep → H b = none := fun {b o es ep} e d => by
      cases q : H b with
      | none => rfl
      | some u =>
        have e' : b = a := oneA b (by rw [q]; simp)
        subst e'
        rw [ha] at e; cases e
        have d' : Data.seq vs.toArray _ = Data.dict es ep := d
        cases d'
    have nsUp : ∀ {b : Addr} {m : Str → Option Value}, s1.heap.Ns b m → (hidT s1.heap H).Ns b m := fun {b m} ⟨o, es, ep, e, d, r⟩ => ⟨o, es, ep, inBase e (noDict e d), d, r⟩
    have kBase : K.In (hidT s1.heap H) := fun b o e => inBase (kx b o e) (by
      cases q : H b with
      | none => rfl
      | some u =>
        have e' : b = a := oneA b (by rw [q]; simp)
        subst e'
        rw [notK (by rw [q]; simp)] at e; cases e)
    have modB : Mod K mg (hidT s1.heap H) := ⟨kBase, nsUp gns, ⟨mb, nsUp blt0, bbt⟩, let ⟨mc, h1, h2⟩ := nol; ⟨mc, nsUp h1, h2⟩⟩
    have env0 : Env0 P w K mg (hidT s1.heap H) callerA [] s1 H := ⟨rfl, modB, fun b o e => of_hidT e, Nat.le_of_eq (hidT_size _ _), trivial, fun b blt0 => absurd (show b ∈ ([] : List Addr) from blt0) (by simp), hok0, .of_eq gen0⟩
    refine codeAny_mono ((F _ kBase (nsUp gns)).run callerA [] s1 H ⟨[.ref a], []⟩ [.ref a] [.ref a] _ _ hr rfl env0 (bnd s1 (.ref a)) (.cons rfl .nil) (psp H only sq)) fun r s' h => ?_
    cases r with
    | error e =>
      obtain ⟨_, _, _, _, _, _, _, _, _, _, _, _, z⟩ := h
      exact z.elim
    | ok fl =>
      cases fl with
      | next => exact False.elim h
      | brk => exact False.elim h
      | cont => exact False.elim h
      | ret u =>
        obtain ⟨v, H', os, bare, un, hok', r', q⟩ := h
        have q' : v = .bl true := q
        subst q'
        obtain rfl : u = Value.bool true := r'
        refine ⟨rfl, OldK.of_keep fun b o e => ?_, os, bare⟩
        cases q : H b with
        | none => exact un.keep b o e q (by intro z; exact absurd (show b ∈ ([] : List Addr) from z) (by simp)) (by simp)
        | some u =>
          rcases only b with z | ⟨ob, xs, z⟩
          · rw [q] at z; cases z
          · have z2 := un.frzs b ob _ z
            obtain ⟨e1, _⟩ := hok0 b _ z
            obtain ⟨e2, _⟩ := hok' b _ z2
            rw [e] at e1; cases e1
            exact e2
  cases hk : K.lookup a with
  | some o =>
    -- a written script
    have e := kx a o hk
    rw [ha] at e
    cases e
    refine main (fun _ => none) (fun _ => .inl rfl) (.inr ⟨_, vs.toArray, _, hk, rfl, rfl, rfl, by rw [List.size_toArray, len0]; exact hl, by simpa using rel⟩) (fun b u z => by have z' : (none : Option HO) = some u := z; cases z') (fun b z => absurd rfl z) fun z => absurd rfl z
  | none =>
    refine main (fun b => if b = a then some (.frz { cls := .type "list", data := .seq vs.toArray } (.lst (ns.map V.int))) else none) (fun b => ?_) (.inl (.inr ⟨{ cls := .type "list", data := .seq vs.toArray }, if_pos rfl⟩)) (fun b u z => ?_) (fun b z => ?_) fun _ => hk
    · by_cases blt0 : b = a
      · exact .inr ⟨_, _, if_pos blt0⟩
      · exact .inl (if_neg blt0)
    · by_cases blt0 : b = a
      · have z' := (if_pos blt0).symm.trans z
        cases z'
        subst blt0
        exact ⟨ha, by rw [List.length_map]; exact hl, vs, _, rel, ha⟩
      · have z' := (if_neg blt0).symm.trans z
        cases z'
    · by_cases blt0 : b = a
      · exact blt0
      · exact absurd (if_neg blt0) z
end Q1
end L2
set_option maxHeartbeats 4000000
namespace L2
namespace Q1
open PySem PySem.Spec PyProof.Rows
/-! ### data with dicts, read off the abstract heap -/
def dKey : Key → PyData
  | .inl i => .int i
  | .inr x => .str x
mutual
inductive Dq (H : Hp) : V → PyData → Prop
  | non : Dq H .non .none
  | bl (b : Bool) : Dq H (.bl b) (.bool b)
  | int (i : Int) : Dq H (.int i) (.int i)
  | str (x : Str) : Dq H (.str x) (.str x)
  | lst {a : Addr} {xs : List V} {ds : List PyData} : H a = some (.lst xs) → a ≠ sysModules → DqAll H xs ds → Dq H (.ref a) (.list ds)
  | tup {a : Addr} {xs : List V} {ds : List PyData} : H a = some (.tup xs) → DqAll H xs ds → Dq H (.ref a) (.tuple ds)
  | dct {a : Addr} {kvs : List (Key × V)} {ds : List PyData} : H a = some (.dK kvs) → DqAll H (kvs.map (·.2)) ds → Dq H (.ref a) (.dict ((kvs.map fun p => dKey p.1).zip ds))
inductive DqAll (H : Hp) : List V → List PyData → Prop
  | nil : DqAll H [] []
  | cons {v : V} {vs : List V} {d : PyData} {ds : List PyData} : Dq H v d → DqAll H vs ds → DqAll H (v :: vs) (d :: ds)
end
theorem DqAll.len {H : Hp} : ∀ {vs : List V} {ds : List PyData}, DqAll H vs ds → vs.length = ds.length
  | _, _, .nil => rfl
  | _, _, .cons _ t => congrArg (· + 1) t.len
section
variable {X : Cx} {pins : List (Addr × Obj)} {σ : St} {H : Hp} {s : Shared}
theorem keys_read {h : Heap} {P : Program} {w : World} : ∀ {es : List DictEntry} {kvs : List (Key × Value)}, Pairs (mixKind P w) es kvs →
    ReadsAll h (es.map (·.key)) (kvs.map fun p => dKey p.1) []
  | _, _, .nil => ReadsAll.nil
  | _, _, .cons (kv := kv) hk _ t => by
    have ih := keys_read (h := h) t
    rcases keyIs_shape (show keyIs kv.1 _ = true from hk) with ⟨i, tk, e1, e2⟩ | ⟨x, tk, e1, e2⟩
    · simp only [List.map_cons, e1, e2]
      exact ReadsAll.cons (Reads.int i tk) ih
    · simp only [List.map_cons, e1, e2]
      exact ReadsAll.cons (Reads.str x tk) ih
theorem pairs_vals {P : Program} {w : World} : ∀ {es : List DictEntry} {kvs : List (Key × Value)}, Pairs (mixKind P w) es kvs → es.map (·.val) = kvs.map (·.2)
  | _, _, .nil => rfl
  | _, _, .cons _ hv t => by simp only [List.map_cons, hv, pairs_vals t]
theorem kv_split : ∀ {kvs : List (Key × V)} {vs : List (Key × Value)}, KV kvs vs → (vs.map fun p => dKey p.1) = (kvs.map fun p => dKey p.1) ∧ Vals (kvs.map (·.2)) (vs.map (·.2))
  | _, _, .nil => ⟨rfl, .nil⟩
  | _, _, .cons r t => ⟨by simp only [List.map_cons, r.1, (kv_split t).1], .cons r.2 (kv_split t).2⟩
mutual
theorem Dq.reads (I : Inv X pins σ H s) : ∀ {v : V} {d : PyData}, Dq H v d → ∀ {u : Value}, RelV v u → ∃ as, Reads s.heap u d as ∧ sysModules ∉ as
  | _, _, .non, _, r => by
    cases r
    exact ⟨_, Reads.none, by simp⟩
  | _, _, .bl b, _, r => by
    cases r
    exact ⟨_, Reads.bool b, by simp⟩
  | _, _, .int i, _, r => by
    obtain ⟨t, rfl⟩ := r
    exact ⟨_, Reads.int i t, by simp⟩
  | _, _, .str x, _, r => by
    obtain ⟨t, rfl⟩ := r
    exact ⟨_, Reads.str x t, by simp⟩
  | _, _, .lst (a := a) ha ne q, _, r => by
    cases r
    obtain ⟨_, its, n, rv, e⟩ := I.hok _ _ ha
    obtain ⟨as, hr, hs⟩ := DqAll.reads I q rv
    refine ⟨_, Reads.list e rfl rfl hr, ?_⟩
    simp only [List.mem_cons, not_or]
    exact ⟨fun z => ne z.symm, hs⟩
  | _, _, .tup (a := a) ha q, _, r => by
    cases r
    obtain ⟨_, its, rv, o, e, hc, n, hd⟩ := I.hok _ _ ha
    obtain ⟨as, hr, hs⟩ := DqAll.reads I q rv
    exact ⟨_, Reads.tuple e hc hd hr, hs⟩
  | _, _, .dct (a := a) (kvs := kvs) (ds := ds) ha q, _, r => by
    cases r
    obtain ⟨_, hne, vs, kv, o, es, ep, e, hx, hd, _, hp, _⟩ := I.hok _ _ ha
    obtain ⟨ek, rv⟩ := kv_split kv
    obtain ⟨as, hr, hs⟩ := DqAll.reads I q rv
    have ll : (kvs.map fun p => dKey p.1).length = ds.length := by
      have := q.len
      rw [List.length_map] at this ⊢
      exact this
    have k1 := keys_read (h := s.heap) hp
    rw [ek] at k1
    have v1 := pairs_vals hp
    rw [← v1] at hr
    refine ⟨_, Reads.dict (es := es) e hx.1 hd (as := []) (bs := as) ?_ ?_, ?_⟩
    · rw [List.map_fst_zip (by omega)]
      exact k1
    · rw [List.map_snd_zip (by omega)]
      exact hr
    · simp only [List.cons_append, List.nil_append, List.mem_cons, not_or]
      exact ⟨fun z => by rw [← z] at hne; exact absurd hne (by decide), hs⟩
theorem DqAll.reads (I : Inv X pins σ H s) : ∀ {vs : List V} {ds : List PyData}, DqAll H vs ds → ∀ {us : List Value}, Vals vs us → ∃ as, ReadsAll s.heap us ds as ∧ sysModules ∉ as
  | _, _, .nil, _, r => by
    cases r
    exact ⟨_, ReadsAll.nil, by simp⟩
  | _, _, .cons h1 h2, _, r => by
    cases r with
    | cons r1 r2 =>
      obtain ⟨as, q1, n1⟩ := Dq.reads I h1 r1
      obtain ⟨bs, q2, n2⟩ := DqAll.reads I h2 r2
      exact ⟨_, ReadsAll.cons q1 q2, by simp only [List.mem_append, not_or]; exact ⟨n1, n2⟩⟩
end
/-- repr(x) of data, nothing else under repr -/
def rRepr : List V → Hp → VK → Prop := fun xs H Q => ∃ (x : V) (d : PyData), xs = [x] ∧ Dq H x d ∧ d.showable = true ∧ d.depth ≤ 40 ∧ d.shown.length ≤ sizeLine ∧ Q (.str d.shown) H
theorem call_repr {k : Nat} (hr : Room k X.A) (hg : X.A.guards = some []) : CallR X (.builtin "repr") rRepr := by
  intro pins s σ H xs us Q I r h
  obtain ⟨x, d, rfl, hd, sh, dp, sz, q⟩ := h
  obtain ⟨u, rfl, rv⟩ := vals1 r
  have un := hr.units
  obtain ⟨as, rd, ns⟩ := hd.reads I rv
  cases hd with
  | non =>
    cases rv
    exact PySem.P.repr_of_none ⟨.str _, H, I.tok _, ⟨_, rfl⟩, q⟩
  | bl b =>
    cases rv
    exact PySem.P.repr_of_bool ⟨.str _, H, I.tok _, ⟨_, rfl⟩, q⟩
  | int i =>
    obtain ⟨t, rfl⟩ := rv
    exact PySem.P.repr_of_int (by simpa [PyData.showable] using sh) ⟨.str _, H, I.tok _, ⟨_, rfl⟩, q⟩
  | str x =>
    obtain ⟨t, rfl⟩ := rv
    exact PySem.P.repr_of_str ⟨.str _, H, I.tok _, ⟨_, rfl⟩, q⟩ sz
  | lst ha ne qa =>
    cases rv
    exact repr_of_reads' (h₀ := s.heap) rd sh (fun _ => ns) hg (by omega) (fun _ _ e => e) (fun h' u tk k => ⟨.str _, H, I.kept k, ⟨_, rfl⟩, q⟩) sz
  | tup ha qa =>
    cases rv
    exact repr_of_reads' (h₀ := s.heap) rd sh (fun _ => ns) hg (by omega) (fun _ _ e => e) (fun h' u tk k => ⟨.str _, H, I.kept k, ⟨_, rfl⟩, q⟩) sz
  | dct ha qa =>
    cases rv
    exact repr_of_reads' (h₀ := s.heap) rd sh (fun _ => ns) hg (by omega) (fun _ _ e => e) (fun h' u tk k => ⟨.str _, H, I.kept k, ⟨_, rfl⟩, q⟩) sz
end
end Q1
end L2
set_option maxHeartbeats 4000000
/-! Readings that compute by the value's form: items, slices, lengths, sums, walks. -/
namespace L2
namespace Q1
open PySem PySem.Spec PyProof.Rows
/-- what is read at a -/
def vw (H : Hp) (a : Addr) : Option HO := match H a with
  | some (.frz _ u) => some u
  | o => o
theorem vw_of {H : Hp} {a : Addr} {o : HO} (h : H a = some o) (n : ∀ b u, o ≠ .frz b u) : vw H a = some o := by
  unfold vw
  rw [h]
  cases o with
  | frz b u => exact absurd rfl (n b u)
  | _ => rfl
theorem vw_lst {H : Hp} {a : Addr} {xs : List V} (h : H a = some (.lst xs)) : vw H a = some (.lst xs) := vw_of h fun _ _ z => by cases z
theorem vw_tup {H : Hp} {a : Addr} {xs : List V} (h : H a = some (.tup xs)) : vw H a = some (.tup xs) := vw_of h fun _ _ z => by cases z
theorem vw_rd {H : Hp} {a : Addr} {u : HO} (h : vw H a = some u) : Rd H a u := by
  unfold vw at h
  split at h
  · rename_i b u' e
    cases h
    exact .inr ⟨b, e⟩
  · exact .inl h
theorem vw_sqL {K : PySem.W.Frag} {H : Hp} {a : Addr} {xs : List V} (h : vw H a = some (.lst xs)) : SqL K H a xs := .inl (vw_rd h)
theorem vw_sqT {K : PySem.W.Frag} {H : Hp} {a : Addr} {xs : List V} (h : vw H a = some (.tup xs)) : SqT K H a xs := .inl (vw_rd h)
/-! ### items -/
def dIx : R2 := fun x y H Q => match x with
  | .ref p => (match vw H p with
    | some (.lst xs) => ∃ i v, y = .int i ∧ atI xs i = some v ∧ Q v H
    | some (.tup xs) => ∃ i v, y = .int i ∧ atI xs i = some v ∧ Q v H
    | _ => False)
  | .str z => ∃ i c, y = .int i ∧ z.length ≤ sizeLine ∧ atI z.cps.toList i = some c ∧ Q (.str ⟨#[c]⟩) H
  | _ => False
section
variable {X : Cx}
theorem ix_d : IxR X dIx := by
  intro value slice pins s σ H x y v u Q I rx ry h hs
  cases x with
  | ref p =>
    simp only [dIx] at h
    split at h
    · rename_i xs e
      obtain ⟨i, v', rfl, e2, q⟩ := h
      exact ix_list value slice pins s σ H _ _ v u Q I rx ry ⟨p, xs, i, v', rfl, rfl, vw_sqL e, e2, q⟩ hs
    · rename_i xs e
      obtain ⟨i, v', rfl, e2, q⟩ := h
      exact ix_tup value slice pins s σ H _ _ v u Q I rx ry ⟨p, xs, i, v', rfl, rfl, vw_sqT e, e2, q⟩ hs
    · exact h.elim
  | str z =>
    obtain ⟨i, c, rfl, hz, e, q⟩ := h
    exact ix_str value slice pins s σ H _ _ v u Q I rx ry ⟨z, i, c, rfl, rfl, hz, e, q⟩ hs
  | _ => exact (show False from h).elim
/-! ### slices -/
def dSl : V → Option Int → Option Int → Hp → VK → Prop := fun x lo hi H Q => match x with
  | .ref a => (match vw H a with
    | some (.lst xs) => ∀ p, H p = none → Q (.ref p) (upd H p (.lst (cutV xs lo hi)))
    | some (.tup xs) => ¬ (HT.sIx xs.length 0 lo = 0 ∧ HT.sIx xs.length xs.length hi = xs.length) ∧ ∀ p, H p = none → Q (.ref p) (upd H p (.tup (cutV xs lo hi)))
    | _ => False)
  | _ => False
theorem sl_d : SlR X dSl := by
  intro pins s σ H x v vl vu lo hi sl Q I rx hs pl pu h
  cases x with
  | ref a =>
    simp only [dSl] at h
    split at h
    · rename_i xs e
      exact sl_list pins s σ H _ v vl vu lo hi sl Q I rx hs pl pu ⟨a, xs, rfl, vw_sqL e, h⟩
    · rename_i xs e
      exact sl_tup pins s σ H _ v vl vu lo hi sl Q I rx hs pl pu ⟨a, xs, rfl, vw_sqT e, h.1, h.2⟩
    · exact h.elim
  | _ => exact (show False from h).elim
/-! ### len -/
def dLen : List V → Hp → VK → Prop := fun xs H Q => match xs with
  | [.ref a] => (match vw H a with
    | some (.lst ys) => Q (.int ys.length) H
    | some (.tup ys) => Q (.int ys.length) H
    | _ => False)
  | [.str z] => z.length ≤ sizeLine ∧ Q (.int z.length) H
  | _ => False
theorem len_d : CallR X (.builtin "len") dLen := by
  intro pins s σ H xs us Q I r h
  unfold dLen at h
  split at h
  · split at h
    · rename_i ys e
      exact call_len_seq pins s σ H _ us Q I r ⟨_, ys, rfl, .inl (vw_sqL e), h⟩
    · rename_i ys e
      exact call_len_seq pins s σ H _ us Q I r ⟨_, ys, rfl, .inr (vw_sqT e), h⟩
    · exact h.elim
  · exact call_len_str pins s σ H _ us Q I r ⟨_, rfl, h.1, h.2⟩
  · exact h.elim
/-! ### a + b -/
def dAdd : R2 := fun x y H Q => match x, y with
  | .int i, .int j => Q (.int (i + j)) H
  | .str i, .str j => i.length + j.length ≤ sizeLine ∧ Q (.str (i ++ j)) H
  | .ref a, .ref b => (match H a, H b with
    | some (.lst xs), some (.lst ys) => xs.length + ys.length ≤ sizeLine ∧ ∀ p, H p = none → Q (.ref p) (upd H p (.lst (xs ++ ys)))
    | _, _ => False)
  | _, _ => False
theorem add_d : OpR X (binaryOp .Add) dAdd := by
  intro pins s σ H x y v u Q I rx ry h
  unfold dAdd at h
  split at h
  · exact op_add pins s σ H _ _ v u Q I rx ry ⟨_, _, rfl, rfl, h⟩
  · exact op_add_str pins s σ H _ _ v u Q I rx ry ⟨_, _, rfl, rfl, h.1, h.2⟩
  · split at h
    · rename_i xs ys ea eb
      exact op_cat pins s σ H _ _ v u Q I rx ry ⟨_, _, _, _, rfl, rfl, ea, eb, h.1, h.2⟩
    · exact h.elim
  · exact h.elim
/-! ### for -/
/-- a walk by J under way -/
def Loop (J : It) (g : TG) (tb : TS) (D : Ends) (σ : St) (H : Hp) : Prop := ∃ W : Nat → Nat → St → Hp → Prop, (∃ m, W 0 m σ H) ∧ ∀ i m σ H, W i m σ H →
  (J.stop i H ∧ D.nx σ H) ∨ (J.go i H ∧ ∃ N : St → Hp → Prop, (∀ σ' H', N σ' H' → ∃ m', m' < m ∧ W (i + 1) m' σ' H') ∧
    ∀ x H', J.yld i H x H' → g x σ H' fun σ2 H2 => tb { D with nx := N, ct := N, bk := D.nx } σ2 H2)
theorem tFor_eq {wi : TI} {g : TG} {tb : TS} {D : Ends} {σ : St} {H : Hp} : tFor wi g tb D σ H = wi σ H fun J H1 => Loop J g tb D σ H1 := rfl
theorem loop_lst {K : PySem.W.Frag} {a : Addr} {g : TG} {tb : TS} {D : Ends} {σ : St} {H : Hp} (xs : List V) (Pv : Nat → St → Hp → Prop) (h0 : Pv 0 σ H) (hl : ∀ i σ H, i ≤ xs.length → Pv i σ H → vw H a = some (.lst xs))
    (hs : ∀ i x σ H, xs[i]? = some x → Pv i σ H → g x σ H fun σ2 H2 => tb { D with nx := Pv (i + 1), ct := Pv (i + 1), bk := D.nx } σ2 H2) (hd : ∀ σ H, Pv xs.length σ H → D.nx σ H) : Loop (Itl K a) g tb D σ H :=
  for_list (K := K) (a := a) (xs := xs) Pv h0 (fun i σ H hi p => vw_sqL (hl i σ H hi p)) hs hd
theorem loop_tup {K : PySem.W.Frag} {a : Addr} {g : TG} {tb : TS} {D : Ends} {σ : St} {H : Hp} (xs : List V) (Pv : Nat → St → Hp → Prop) (h0 : Pv 0 σ H) (hl : ∀ i σ H, i ≤ xs.length → Pv i σ H → vw H a = some (.tup xs))
    (hs : ∀ i x σ H, xs[i]? = some x → Pv i σ H → g x σ H fun σ2 H2 => tb { D with nx := Pv (i + 1), ct := Pv (i + 1), bk := D.nx } σ2 H2) (hd : ∀ σ H, Pv xs.length σ H → D.nx σ H) : Loop (Itt K a) g tb D σ H :=
  for_tup (K := K) (a := a) (xs := xs) Pv h0 (fun i σ H hi p => vw_sqT (hl i σ H hi p)) hs hd
theorem loop_rng {lo : Int} {n : Nat} {g : TG} {tb : TS} {D : Ends} {σ : St} {H : Hp} (Pv : Nat → St → Hp → Prop) (h0 : Pv 0 σ H)
    (hs : ∀ i σ H, i < n → Pv i σ H → g (.int (lo + i)) σ H fun σ2 H2 => tb { D with nx := Pv (i + 1), ct := Pv (i + 1), bk := D.nx } σ2 H2) (hd : ∀ σ H, Pv n σ H → D.nx σ H) : Loop (Itr lo n) g tb D σ H :=
  for_range (lo := lo) (n := n) Pv h0 hs hd
/-! ### comprehensions -/
def LcLoop (J : It) (g : TG) (tt : TT) (te : TE) (vs : List Nat) (σ : St) (H1 : Hp) (D : Addr) (Qd : Hp → Prop) : Prop := ∃ W : Nat → Nat → Hp → Prop, (∃ m, W 0 m (upd H1 D (.lst []))) ∧ ∀ i m H, W i m H →
  (J.stop i H ∧ Qd H) ∨ (J.go i H ∧ ∃ Nx : Hp → Prop, (∀ H', Nx H' → ∃ m', m' < m ∧ W (i + 1) m' H') ∧ ∀ x H', J.yld i H x H' → g x (wipe σ vs) H' fun σ2 H2 => wipe σ2 vs = wipe σ vs ∧ tt σ2 H2 fun b H3 =>
    if b = true then te σ2 H3 fun y H4 => ∃ acc, H4 D = some (.lst acc) ∧ acc.length < sizeLine ∧ Nx (upd H4 D (.lst (acc ++ [y]))) else Nx H3)
theorem tLc_eq {wi : TI} {g : TG} {tt : TT} {te : TE} {vs : List Nat} {σ : St} {H : Hp} {Q : VK} : tLc wi g tt te vs σ H Q = wi σ H fun J H1 => ∀ D, H1 D = none → LcLoop J g tt te vs σ H1 D fun H => Q (.ref D) H := rfl
theorem lcl_lst {K : PySem.W.Frag} {a : Addr} {g : TG} {tt : TT} {te : TE} {vs : List Nat} {σ : St} {H1 : Hp} {D : Addr} {Qd : Hp → Prop} (xs : List V) (Pv : Nat → Hp → Prop) (h0 : Pv 0 (upd H1 D (.lst [])))
    (hl : ∀ i H, i ≤ xs.length → Pv i H → vw H a = some (.lst xs))
    (hs : ∀ i x H, xs[i]? = some x → Pv i H → g x (wipe σ vs) H fun σ2 H2 => wipe σ2 vs = wipe σ vs ∧ tt σ2 H2 fun b H3 =>
      if b = true then te σ2 H3 fun y H4 => ∃ acc, H4 D = some (.lst acc) ∧ acc.length < sizeLine ∧ Pv (i + 1) (upd H4 D (.lst (acc ++ [y]))) else Pv (i + 1) H3) (hd : ∀ H, Pv xs.length H → Qd H) :
    LcLoop (Itl K a) g tt te vs σ H1 D Qd := lc_list (K := K) (a := a) (xs := xs) Pv h0 (fun i H hi p => vw_sqL (hl i H hi p)) hs hd
theorem lcl_tup {K : PySem.W.Frag} {a : Addr} {g : TG} {tt : TT} {te : TE} {vs : List Nat} {σ : St} {H1 : Hp} {D : Addr} {Qd : Hp → Prop} (xs : List V) (Pv : Nat → Hp → Prop) (h0 : Pv 0 (upd H1 D (.lst [])))
    (hl : ∀ i H, i ≤ xs.length → Pv i H → vw H a = some (.tup xs))
    (hs : ∀ i x H, xs[i]? = some x → Pv i H → g x (wipe σ vs) H fun σ2 H2 => wipe σ2 vs = wipe σ vs ∧ tt σ2 H2 fun b H3 =>
      if b = true then te σ2 H3 fun y H4 => ∃ acc, H4 D = some (.lst acc) ∧ acc.length < sizeLine ∧ Pv (i + 1) (upd H4 D (.lst (acc ++ [y]))) else Pv (i + 1) H3) (hd : ∀ H, Pv xs.length H → Qd H) :
    LcLoop (Itt K a) g tt te vs σ H1 D Qd := lc_tup (K := K) (a := a) (xs := xs) Pv h0 (fun i H hi p => vw_sqT (hl i H hi p)) hs hd
theorem lcl_rng {lo : Int} {n : Nat} {g : TG} {tt : TT} {te : TE} {vs : List Nat} {σ : St} {H1 : Hp} {D : Addr} {Qd : Hp → Prop} (Pv : Nat → Hp → Prop) (h0 : Pv 0 (upd H1 D (.lst [])))
    (hs : ∀ i H, i < n → Pv i H → g (.int (lo + i)) (wipe σ vs) H fun σ2 H2 => wipe σ2 vs = wipe σ vs ∧ tt σ2 H2 fun b H3 =>
      if b = true then te σ2 H3 fun y H4 => ∃ acc, H4 D = some (.lst acc) ∧ acc.length < sizeLine ∧ Pv (i + 1) (upd H4 D (.lst (acc ++ [y]))) else Pv (i + 1) H3) (hd : ∀ H, Pv n H → Qd H) :
    LcLoop (Itr lo n) g tt te vs σ H1 D Qd := lc_range (lo := lo) (n := n) Pv h0 hs hd
/-! ### what a for walks, by the value's form -/
def dIter (K : PySem.W.Frag) (x : V) (H : Hp) (R : It → Hp → Prop) : Prop := match x with
  | .ref a => (match vw H a with
    | some (.lst _) => R (Itl K a) H
    | some (.tup _) => R (Itt K a) H
    | _ => False)
  | .str z => R (Its z) H
  | _ => False
def iAny (K : PySem.W.Frag) (tl : TE) : TI := fun σ H R => tl σ H fun x H1 => dIter K x H1 R
theorem pi_any {tg l : Expr} {tl : TE} (hl : PE X l tl) : PI X tg l (iAny X.K tl) := by
  refine ⟨fun pins s σ H R I h => ?_⟩
  refine thn (hl.run pins s σ H _ I h) fun v s1 ⟨x, H1, I1, r1, q1⟩ => ?_
  cases x with
  | ref a =>
    cases r1
    simp only [dIter] at q1
    split at q1
    · rename_i xs e
      obtain ⟨its, rv, p, hz⟩ := I1.list (vw_sqL (K := X.K) e)
      refine wpAny_pyIter_list p.isList ⟨s1.heap.objs.size, [s1.heap.objs.size], _, _, H1, rfl, I1.kept (t' := s1.toks) fun b o z => Heap.get?_push_of_some _ z,
        turn_list a _, ⟨_, Heap.get?_push_size _ rfl, rfl, rfl⟩, fun b hb => ?_, q1⟩
      rw [List.mem_singleton.mp hb]
      exact I1.fpOk (Nat.le_refl _) (I1.hok.fresh (Nat.le_refl _))
    · rename_i xs e
      obtain ⟨its, rv, p, hz⟩ := I1.tuple (vw_sqT (K := X.K) e)
      refine wpAny_pyIter_tuple (show s1.heap.IsTuple a its.toArray from p) ⟨s1.heap.objs.size, [s1.heap.objs.size], _, _, H1, rfl, I1.kept (t' := s1.toks) fun b o z => Heap.get?_push_of_some _ z,
        turn_tuple a _, ⟨_, Heap.get?_push_size _ rfl, rfl, rfl⟩, fun b hb => ?_, q1⟩
      rw [List.mem_singleton.mp hb]
      exact I1.fpOk (Nat.le_refl _) (I1.hok.fresh (Nat.le_refl _))
    · exact q1.elim
  | str z =>
    obtain ⟨t, rfl⟩ := r1
    have q2 : R (Its z) H1 := q1
    cases ha : z.cps.all (· < 128)
    · exact wpAny_pyIter_wide ha (pi_one (tk := s1.toks) I1 _ (turn_str _ z t "str_iterator" (.inr rfl)) ⟨_, Heap.get?_push_size _ rfl, rfl, rfl⟩ q2)
    · exact wpAny_pyIter_ascii ha (pi_one (tk := s1.toks) I1 _ (turn_str _ z t "str_ascii_iterator" (.inl rfl)) ⟨_, Heap.get?_push_size _ rfl, rfl, rfl⟩ q2)
  | _ => exact (show False from q1).elim
end
end Q1
end L2
set_option maxHeartbeats 4000000
/-! More readings by the value's form: a new list that is not the modules' dict, isinstance of built-in types, append. -/
namespace L2
namespace Q1
open PySem PySem.Spec PyProof.Rows
section
variable {X : Cx} {e : Expr} {es : List Expr} {te : TE} {t : TA} {pos : Pos}
/-- a reading that may be weakened -/
def tMono (te : TE) : TE := fun σ H Q => ∃ R : VK, te σ H R ∧ ∀ v H', R v H' → Q v H'
theorem pe_mono (he : PE X e te) : PE X e (tMono te) := ⟨fun pins s σ H Q I ⟨R, h, f⟩ => thn (he.run pins s σ H R I h) fun _ _ ⟨x, H1, I1, r1, q1⟩ => ⟨x, H1, I1, r1, f x H1 q1⟩⟩
theorem pe_conv {te' : TE} (he : PE X e te) (f : ∀ σ H Q, te' σ H Q → te σ H Q) : PE X e te' := ⟨fun pins s σ H Q I h => he.run pins s σ H Q I (f σ H Q h)⟩
/-- a list that is told apart from the modules' dict -/
def tLstS (t : TA) : TE := fun σ H Q => t σ H fun xs H1 => xs.length ≤ sizeLine ∧ ∀ p, H1 p = none → p ≠ sysModules → Q (.ref p) (upd H1 p (.lst xs))
theorem pe_lstS (ha : PA X es t) : PE X (.List es pos) (tLstS t) := by
  constructor
  intro pins s σ H Q I hq
  refine wpAny_List_spliced (thn (ha.run pos pins s σ H _ I hq) fun us s1 hh => ?_)
  obtain ⟨xs, H1, I1, rv, hz, q1⟩ := hh
  refine ⟨rv.length ▸ hz, .ref s1.heap.objs.size, _, I1.lnew rv hz, rfl, q1 _ I1.fresh ?_⟩
  exact Nat.ne_of_gt I1.big
/-- the type's name of a value -/
def tyN (H : Hp) : V → Option String
  | .non => some "NoneType"
  | .bl _ => some "bool"
  | .int _ => some "int"
  | .str _ => some "str"
  | .ref a => (match vw H a with
    | some (.lst _) => some "list"
    | some (.tup _) => some "tuple"
    | some (.dK _) => some "dict"
    | _ => none)
  | _ => none
theorem tyN_ok {K : PySem.W.Frag} {H : Hp} {x : V} {t : String} (h : tyN H x = some t) : TyX K H x (.type t) ∧ t ∈ ["NoneType", "bool", "int", "str", "list", "tuple", "dict"] := by
  cases x with
  | non => cases h; exact ⟨.base .non, by decide⟩
  | bl b => cases h; exact ⟨.base (.bl b), by decide⟩
  | int i => cases h; exact ⟨.base (.int i), by decide⟩
  | str z => cases h; exact ⟨.base (.str z), by decide⟩
  | ref a =>
    simp only [tyN] at h
    split at h
    · rename_i xs e
      cases h
      refine ⟨?_, by decide⟩
      rcases vw_rd e with e | ⟨o, e⟩
      · exact .base (.lst e)
      · exact .base (.frz e)
    · rename_i xs e
      cases h
      refine ⟨?_, by decide⟩
      rcases vw_rd e with e | ⟨o, e⟩
      · exact .base (.tup e)
      · exact .fTuple e
    · rename_i xs e
      cases h
      refine ⟨?_, by decide⟩
      rcases vw_rd e with e | ⟨o, e⟩
      · exact .base (.dK e)
      · exact .fDict e
    · cases h
  | _ => cases h
theorem kitB_ok : ∀ t ∈ ["NoneType", "bool", "int", "str", "list", "tuple", "dict"], ∀ n ∈ ["list", "tuple", "dict"], kitB t n = some (t == n) := by
  decide +kernel
/-- isinstance(x, n), n one of list, tuple, dict -/
def dIsi : List V → Hp → VK → Prop := fun xs H Q => match xs with
  | [x, .ty n] => n ∈ ["list", "tuple", "dict"] ∧ ∃ t, tyN H x = some t ∧ Q (.bl (t == n)) H
  | _ => False
theorem isi_d : CallR X (.builtin "isinstance") dIsi := by
  intro pins s σ H xs us Q I r h
  unfold dIsi at h
  split at h
  · rename_i x n
    obtain ⟨hn, t, ht, q⟩ := h
    obtain ⟨h1, h2⟩ := tyN_ok (K := X.K) ht
    exact call_isi pins s σ H _ us Q I r ⟨x, .ty n, _, _, _, rfl, .ty n, h1, kit_ty (kitB_ok t h2 n hn), q⟩
  · exact h.elim
/-- l.append(e) -/
def tApp (to : TE) (t : TA) : TE := fun σ H Q => to σ H fun x H1 => (∃ l xs, x = .ref l ∧ H1 l = some (.lst xs)) ∧ t σ H1 fun vs H2 => rAppend x vs H2 Q
theorem pe_app {o : Expr} {apos : Pos} {to : TE} (ho : PE X o to) (ha : PA X [e] t) (hbase : attributeBase o "append" X.env (eval o X.env) = eval o X.env := by rfl)
    (hfew : ((backTo pos (starEach [e] X.env)).all (fun x => !x.1) && (backToKw pos (keywordEach [] X.env)).all (fun x => x.1.isSome) && decide (([e] : List Expr).length + ([] : List Keyword).length + (if ([] : List Keyword).isEmpty then 0 else 1) < 30)) = true := by rfl)
    (hline : (apos.endLine == pos.line) = true := by rfl) (hs : starEach [e] X.env = (false, eval e X.env) :: starEach [] X.env := by rfl) : PE X (.Call (.Attribute o "append" apos) [e] [] pos) (tApp to t) := by
  refine pe_conv (pe_bm F.plainAttrs_list F.slot_list_append F.type_list_append mt_append (pe_mono ho) ha hbase hfew hline hs (by rfl)) ?_
  exact fun σ H Q h => ⟨_, h, fun v H1 ⟨⟨l, xs, e1, e2⟩, q⟩ => by
    subst e1
    exact ⟨.inl ⟨rfl, xs, .of e2⟩, q⟩⟩
end
end Q1
end L2
set_option maxHeartbeats 4000000
/-! How long repr's text of small data is. -/
namespace L2
namespace Q1
open PySem PySem.Spec PyProof.Rows
/-- a text of ordinary signs -/
def okS (x : Str) : Prop := ∀ c ∈ x.cps.toList, c < 16 ^ 8
mutual
/-- no shorter than repr's text -/
def sLen : PyData → Nat
  | .none => 4
  | .bool _ => 5
  | .int i => (PyData.shown (.int i)).length
  | .str x => 10 * x.length + 2
  | .list xs => sLenA xs + 2 * xs.length + 3
  | .tuple xs => sLenA xs + 2 * xs.length + 3
  | .dict kvs => sLenK kvs + 2 * kvs.length + 3
def sLenA : List PyData → Nat
  | [] => 0
  | d :: r => sLen d + sLenA r
def sLenK : List (PyData × PyData) → Nat
  | [] => 0
  | (k, v) :: r => sLen k + 2 + sLen v + sLenK r
end
mutual
def okD : PyData → Prop
  | .none => True
  | .bool _ => True
  | .int _ => True
  | .str x => okS x
  | .list xs => okDA xs
  | .tuple xs => okDA xs
  | .dict kvs => okDK kvs
def okDA : List PyData → Prop
  | [] => True
  | d :: r => okD d ∧ okDA r
def okDK : List (PyData × PyData) → Prop
  | [] => True
  | (k, v) :: r => okD k ∧ okD v ∧ okDK r
end
theorem shownA_len : ∀ xs : List PyData, (PyData.shownAll xs).length = xs.length
  | [] => rfl
  | _ :: r => congrArg (· + 1) (shownA_len r)
theorem shownK_len : ∀ xs : List (PyData × PyData), (PyData.shownKv xs).length = xs.length
  | [] => rfl
  | _ :: r => congrArg (· + 1) (shownK_len r)
theorem len_app (a b : Str) : (a ++ b).length = a.length + b.length := Str.length_append a b
mutual
theorem shown_le : ∀ d : PyData, okD d → d.shown.length ≤ sLen d
  | .none, _ => by decide +kernel
  | .bool true, _ => by decide +kernel
  | .bool false, _ => by decide +kernel
  | .int i, _ => by rw [sLen] <;> exact Nat.le_refl _
  | .str x, h => by
    rw [okD] at h
    rw [sLen, PyData.shown]
    exact StrLaws.reprText_len x h
  | .list xs, h => by
    rw [okD] at h
    have h1 := shown_leA xs h
    have h2 := listText_len_le (PyData.shownAll xs)
    rw [shownA_len] at h2
    rw [sLen, PyData.shown]
    omega
  | .tuple xs, h => by
    rw [okD] at h
    have h1 := shown_leA xs h
    have h2 := tupleText_len_le (PyData.shownAll xs)
    rw [shownA_len] at h2
    rw [sLen, PyData.shown]
    omega
  | .dict kvs, h => by
    rw [okD] at h
    have h1 := shown_leK kvs h
    have h2 := dictText_len_le (PyData.shownKv kvs)
    rw [shownK_len] at h2
    rw [sLen, PyData.shown]
    omega
theorem shown_leA : ∀ xs : List PyData, okDA xs → ((PyData.shownAll xs).map (·.length)).sum ≤ sLenA xs
  | [], _ => Nat.le_refl _
  | d :: r, h => by
    rw [okDA] at h
    have h1 := shown_le d h.1
    have h2 := shown_leA r h.2
    rw [sLenA, PyData.shownAll, List.map_cons, List.sum_cons]
    omega
theorem shown_leK : ∀ xs : List (PyData × PyData), okDK xs → ((PyData.shownKv xs).map (·.length)).sum ≤ sLenK xs
  | [], _ => Nat.le_refl _
  | (k, v) :: r, h => by
    rw [okDK] at h
    have h1 := shown_le k h.1
    have h2 := shown_le v h.2.1
    have h3 := shown_leK r h.2.2
    have h4 : ((": " : String) : Str).length = 2 := rfl
    rw [sLenK, PyData.shownKv, List.map_cons, List.sum_cons, len_app, len_app, h4]
    omega
end
/-- data that repr shows -/
def Shows (d : PyData) : Prop := d.showable = true ∧ d.depth ≤ 40 ∧ d.shown.length ≤ sizeLine
theorem shows_of {d : PyData} (h1 : d.showable = true) (h2 : d.depth ≤ 40) (h3 : okD d) (h4 : sLen d ≤ sizeLine) : Shows d := ⟨h1, h2, Nat.le_trans (shown_le d h3) h4⟩
end Q1
end L2
set_option maxHeartbeats 4000000
namespace L2
namespace K1
open PySem PySem.Spec PyProof.Rows Q1
def topS (i : Nat) : Stmt := PySem.Challenge.pw_kindgrants_k01_errors_made.main.body.getD i (.Pass ⟨0, 0, 0, 0⟩)
section
variable {X : Cx}
/-- a ** b of any size that fits -/
theorem op_powB : OpR X (binaryOp .Pow) (rI (fun i j => 0 ≤ j ∧ (Builtin.Int.intBits i : Int) * j ≤ 2 ^ 27) fun i j => .int (i ^ j.toNat)) :=
  opI fun _ _ _ _ _ _ _ hc q => pow_int hc.1 hc.2 q
end
/-- a def of the text as it stands behind the top -/
structure DefAt (K : PySem.W.Frag) (mg : Str → Option Value) (x : Str) (st : Stmt) (f : Addr) (fd : FuncData) : Prop where
  F : Fun K x x st f fd
  g : mg x = some (.ref f)
/-- the built-ins that the text calls are not hidden -/
structure Blt (mg : Str → Option Value) : Prop where
  sum : mg "sum" = none
  int : mg "int" = none
  max : mg "max" = none
  min : mg "min" = none
  len : mg "len" = none
  range : mg "range" = none
  repr : mg "repr" = none
  isinstance : mg "isinstance" = none
  all : mg "all" = none
  ValueError : mg "ValueError" = none
  list : mg "list" = none
  dict : mg "dict" = none
  tuple : mg "tuple" = none
variable {P : Program} {w : World} {K : PySem.W.Frag} {mg : Str → Option Value} {base : Heap} {f : Addr} {fd : FuncData}
theorem sc_law_mixed : FnScope ["_law_seed", "_law_spin", "_law_at", "_law_mixed_here"] ["_law_seed", "_law_spin", "_law_at"] (defScope (topS 37)) :=
  ⟨rfl, rfl, rfl, by decide +kernel, rfl, by decide +kernel, by decide +kernel⟩
def spMixed : Sp := fun vs H Q _ => match vs with
  | [.int seed, .int spin, .int at_] => 0 ≤ seed ∧ seed < 2 ^ 40 ∧ 0 ≤ spin ∧ spin < 2 ^ 50 ∧ 0 ≤ at_ ∧ at_ < 2 ^ 40 ∧ ∀ m, 0 ≤ m → m < 2147483587 → Q (.int m) H
  | _ => False
theorem ok_mixed (D : DefAt K mg "_law_mixed" (topS 37) f fd) (T : Blt mg) : FnG P w K mg base 1 f fd ["_law_seed", "_law_spin", "_law_at"] spMixed := by
  refine fun_ok D.F sc_law_mixed (fun vs H Q E h => ?_) (fun cdv A outer s H vs Q E hr hgd h => ?_)
  · unfold spMixed at h
    split at h
    · rfl
    · exact h.elim
  · unfold spMixed at h
    split at h
    case h_2 => exact h.elim
    rename_i seed spin at_
    obtain ⟨h1, h2, h3, h4, h5, h6, q⟩ := h
    refine ⟨_, (pss_cons (ps_set (i := 3) sc_law_mixed.nd rfl (Or.inl rfl) (pe_op op_add (pe_op op_mul (pv 0) pe_int) (pe_op op_mul (pe_op op_mul pe_int (pv 1)) (pv 1))))
      (pss_cons (ps_set (i := 3) sc_law_mixed.nd rfl (Or.inl rfl) (pe_op op_mod (pe_callTy call_int1 (by rfl) T.int (by decide +kernel) (pa_cons (pe_op op_add (pe_op op_add (pv 3) (pe_op op_mul pe_int (pv 2))) (pv 1)) pa_nil)) pe_int))
      (pss_cons (ps_set (i := 3) sc_law_mixed.nd rfl (Or.inl rfl) (pe_op op_mod (pe_callTy call_int1 (by rfl) T.int (by decide +kernel) (pa_cons (pe_op op_add (pe_op op_mul (pv 3) (pv 3)) pe_int) pa_nil)) pe_int))
      (pss_one (ps_ret (pe_op op_mod (pe_callTy call_int1 (by rfl) T.int (by decide +kernel) (pa_cons (pe_op op_mul (pv 3) pe_int) pa_nil)) pe_int)))))), ?_⟩
    simp [tSeq, tAsg, gName, tOp, tVar, tC, tCB, tCons, tNil, rI, rI0, tRet, start, CMul]
    refine ⟨.inr ⟨by omega, by omega⟩, ⟨by omega, by omega⟩, q _ (by omega) (by omega)⟩
end K1
end L2
set_option maxHeartbeats 4000000
namespace L2
namespace K1
open PySem PySem.Spec PyProof.Rows Q1
variable {P : Program} {w : World} {K : PySem.W.Frag} {mg : Str → Option Value} {base : Heap} {f : Addr} {fd : FuncData}
@[simp] theorem upd_same (H : Hp) (a : Addr) (o : HO) : upd H a o a = some o := if_pos rfl
@[simp] theorem vw_upd_lst (H : Hp) (a : Addr) (xs : List V) : vw (upd H a (.lst xs)) a = some (.lst xs) := vw_lst (upd_same ..)
theorem upd_ne {H : Hp} {a b : Addr} {o : HO} (h : b ≠ a) : upd H a o b = H b := if_neg h
/-- all but a is as it was -/
def But (a : Addr) (H H' : Hp) : Prop := ∀ b, b ≠ a → H' b = H b
theorem But.upd {a : Addr} {H H' : Hp} {o : HO} (h : But a H H') : But a H (upd H' a o) := fun b hb => (upd_ne hb).trans (h b hb)
theorem But.rfl' {a : Addr} {H : Hp} : But a H H := fun _ _ => rfl
/-! ### the purse -/
/-- a purse at a: what is left of a great number, a seed, how often was drawn, a place -/
def Purse (H : Hp) (a : Addr) (c : Int) : Prop := ∃ p0 p1 p2 p3 : Int, H a = some (.lst [.int p0, .int p1, .int p2, .int p3]) ∧ 0 ≤ p0 ∧ 0 ≤ p1 ∧ p1 < 2147483629 ∧ 0 ≤ p2 ∧ p2 ≤ c ∧ 0 ≤ p3 ∧ p3 ≤ 63
theorem sc_law_draw : FnScope ["_law_purse_here", "_law_many", "_law_drawn", "_law_found", "_law_piece"] ["_law_purse_here", "_law_many"] (defScope (topS 38)) :=
  ⟨rfl, rfl, rfl, by decide +kernel, rfl, by decide +kernel, by decide +kernel⟩
def spDraw : Sp := fun vs H Q _ => match vs with
  | [.ref a, .int m] => ∃ c : Int, Purse H a c ∧ 0 < m ∧ m < 2 ^ 27 ∧ c ≤ 2 ^ 40 ∧ ∀ d H', 0 ≤ d → d < m → Purse H' a (c + 1) → But a H H' → Q (.int d) H'
  | _ => False
theorem ok_draw {fM : Addr} {fdM : FuncData} (D : DefAt K mg "_law_draw" (topS 38) f fd) (DM : DefAt K mg "_law_mixed" (topS 37) fM fdM) (T : Blt mg) : FnG P w K mg base 2 f fd ["_law_purse_here", "_law_many"] spDraw := by
  have G_law_mixed : FnG P w K mg base 1 fM fdM ["_law_seed", "_law_spin", "_law_at"] spMixed := ok_mixed DM T
  have b_law_mixed : Binds K fdM ["_law_seed", "_law_spin", "_law_at"] [] := DM.F.binds fun _ _ _ _ _ _ us hl => match us, hl with | [_, _, _], _ => rfl
  refine fun_ok D.F sc_law_draw (fun vs H Q E h => ?_) (fun cdv A outer s H vs Q E hr hgd h => ?_)
  · unfold spDraw at h
    split at h
    · rfl
    · exact h.elim
  · unfold spDraw at h
    split at h
    case h_2 => exact h.elim
    rename_i a m
    obtain ⟨c, ⟨p0, p1, p2, p3, ha, h0, h1, h2, h3, h4, h5, h6⟩, hm, hm2, hc, q⟩ := h
    refine ⟨_, (pss_cons (ps_if (pt_cmpR op_gt (pe_ix ix_d (pv 0) pe_int (fun _ _ => rfl)) pe_int (nomark _)) (pss_cons (ps_set (i := 2) sc_law_draw.nd rfl (Or.inl rfl) (pe_op op_mod (pe_callTy call_int1 (by rfl) T.int (by decide +kernel) (pa_cons (pe_ix ix_d (pv 0) pe_int (fun _ _ => rfl)) pa_nil)) (pv 1)))
      (pss_cons (ps_asg (pe_op op_fdiv (pe_ix ix_d (pv 0) pe_int (fun _ _ => rfl)) (pv 1)) (pg_sub (pv 0) pe_int set_list))
      (pss_one (ps_ret (pv 2))))) pss_nil)
      (pss_cons (ps_set (i := 3) sc_law_draw.nd rfl (Or.inl rfl) pe_int)
      (pss_cons (ps_for PassesOwn.never rfl (pi_range1 (by rfl) T.range (pa_cons (pe_op op_add pe_int (pe_op op_fdiv (pe_bits (pv 1)) pe_int)) pa_nil)) (pg_name (i := 4) sc_law_draw.nd rfl (Or.inl rfl)) (pss_cons (ps_asg (pe_op op_add (pe_ix ix_d (pv 0) pe_int (fun _ _ => rfl)) pe_int) (pg_sub (pv 0) pe_int set_list))
      (pss_one (ps_set (i := 3) sc_law_draw.nd rfl (Or.inl rfl) (pe_op op_add (pe_op op_mul (pv 3) pe_int) (pe_callG G_law_mixed hr hgd (by rfl) DM.g DM.F.kp b_law_mixed .nil passL (pa_cons (pe_ix ix_d (pv 0) pe_int (fun _ _ => rfl)) (pa_cons (pe_ix ix_d (pv 0) pe_int (fun _ _ => rfl)) (pa_cons (pe_ix ix_d (pv 0) pe_int (fun _ _ => rfl)) pa_nil)))))))))
      (pss_one (ps_ret (pe_op op_mod (pe_callTy call_int1 (by rfl) T.int (by decide +kernel) (pa_cons (pv 3) pa_nil)) (pv 1))))))), ?_⟩
    simp [tSeq, tAsg, gName, tOp, tVar, tC, tCB, tCons, tNil, rI, rI0, tRet, start, CMul, tIfS, tTest, dIx, vw_lst ha, ha, atI, ixN, gSub, rSetL, iRng1, tBits, CDiv, tCall, tFor_eq]
    by_cases h00 : 0 < p0
    · simp [h00]
      refine ⟨hm, ⟨hm, by omega⟩, q _ _ (Int.emod_nonneg _ (by omega)) (Int.emod_lt_of_pos _ hm) ⟨_, _, _, _, upd_same .., ?_, h1, h2, h3, by omega, h5, h6⟩ But.rfl'.upd⟩
      exact Int.ediv_nonneg h0 (by omega)
    · have eb : ((Builtin.Int.intBits m : Nat) : Int) / 28 = 0 := by
        have : Builtin.Int.intBits m ≤ 27 := intBits_le_iff.mpr (by omega)
        omega
      have e1 : (0 : Int) < p0 ↔ False := ⟨fun h => absurd h h00, False.elim⟩
      simp [h00, tNext, tSeq, tAsg, tC, gName, tFor_eq, iRng1, tCons, tNil, tOp, rI0, rI, tBits, tVar, CDiv, eb]
      have m1 := h3
      refine loop_rng (fun i σ H' => (i = 0 ∧ σ = [some (V.ref a), some (V.int m), none, some (.int 0), none] ∧ H' = H) ∨
        (i = 1 ∧ ∃ z : Int, 0 ≤ z ∧ z < 2147483587 ∧ σ = [some (V.ref a), some (V.int m), none, some (.int z), some (.int 0)] ∧ H' = upd H a (.lst [.int p0, .int p1, .int (p2 + 1), .int p3]))) (.inl ⟨rfl, rfl, rfl⟩) ?_ ?_
      · rintro i σ H' hi (⟨rfl, rfl, rfl⟩ | ⟨rfl, _⟩)
        · simp [tSeq, tAsg, gName, tOp, tVar, tC, tCB, tCons, tNil, rI, rI0, start, CMul, tTest, dIx, vw_lst ha, ha, atI, ixN, gSub, rSetL, tCall, spMixed]
          refine ⟨h1, by omega, by omega, by omega, h5, by omega, fun z z0 z1 => ⟨z0, z1⟩⟩
        · exact absurd hi (by decide)
      · rintro σ H' (⟨h, _⟩ | ⟨_, z, z0, z1, rfl, rfl⟩)
        · exact absurd h (by decide)
        · simp [tSeq, tRet, tOp, tCB, tCons, tNil, tVar, rI, rI0]
          refine ⟨hm, q _ _ (Int.emod_nonneg _ (by omega)) (Int.emod_lt_of_pos _ hm) ⟨_, _, _, _, upd_same .., h0, h1, h2, by omega, by omega, h5, h6⟩ But.rfl'.upd⟩
end K1
end L2
set_option maxHeartbeats 4000000
namespace L2
namespace K1
open PySem PySem.Spec PyProof.Rows Q1
/-- a def as callers see it -/
structure Cal (P : Program) (w : World) (K : PySem.W.Frag) (mg : Str → Option Value) (base : Heap) (k : Nat) (x : Str) (f : Addr) (fd : FuncData) (ps : List Str) (sp : Sp) : Prop where
  F : FnG P w K mg base k f fd ps sp
  g : mg x = some (.ref f)
  kp : PySem.W.keepIn K (.ref f) = true
  b : Binds K fd ps []
theorem Cal.mono {P : Program} {w : World} {K : PySem.W.Frag} {mg : Str → Option Value} {base : Heap} {j k : Nat} {x : Str} {f : Addr} {fd : FuncData} {ps : List Str} {sp : Sp} (C : Cal P w K mg base j x f fd ps sp) (h : j ≤ k) : Cal P w K mg base k x f fd ps sp :=
  ⟨C.F.mono h, C.g, C.kp, C.b⟩
section
variable {X : Cx} {k : Nat} {f : Addr} {fd : FuncData} {ps : List Str} {sp : Sp} {x : Str} {p pos : Pos} {e : Expr} {es : List Expr} {t : TA}
theorem pe_callC (C : Cal X.prog X.w X.K X.mg X.base k x f fd ps sp) (hr : Room k X.A) (hgd : X.A.guards = some []) (hg : Gl X x) (ha : PA X (e :: es) t) (hdb : (x == ("__debug__" : Str)) = false := by decide)
    (he : starEach (e :: es) X.env = (false, eval e X.env) :: starEach es X.env := by rfl) (hpl : (backTo pos (starEach es X.env)).any (·.1) = false := by rfl) :
    PE X (.Call (.Name x p) (e :: es) [] pos) (tCall sp [] E0 t) := pe_callG C.F hr hgd hg C.g C.kp C.b .nil passL ha hdb he hpl
theorem pe_callC0 (C : Cal X.prog X.w X.K X.mg X.base k x f fd ps sp) (hr : Room k X.A) (hgd : X.A.guards = some []) (hg : Gl X x) (hdb : (x == ("__debug__" : Str)) = false := by decide) :
    PE X (.Call (.Name x p) [] [] pos) (tCall sp [] E0 tNil) := pe_callG0 C.F hr hgd hg C.g C.kp C.b .nil passL hdb
end
variable {P : Program} {w : World} {K : PySem.W.Frag} {mg : Str → Option Value} {base : Heap} {f : Addr} {fd : FuncData}
/-! ### a purse of the script -/
theorem cutV_map (ns : List Int) (lo hi : Option Int) : ∃ ms : List Int, cutV (ns.map V.int) lo hi = ms.map V.int := by
  unfold cutV
  refine ⟨(ns.drop (HT.sIx (ns.map V.int).length 0 lo)).take (HT.sIx (ns.map V.int).length (ns.map V.int).length hi - HT.sIx (ns.map V.int).length 0 lo), ?_⟩
  rw [List.map_take, List.map_drop]
theorem bits480 : (Builtin.Int.intBits (10 ^ 60 : Int) : Int) * 8 ≤ 2 ^ 27 := by decide +kernel
theorem bits18 : (Builtin.Int.intBits (10 : Int) : Int) * 18 ≤ 2 ^ 27 := by decide +kernel
theorem bits60 : (Builtin.Int.intBits (10 : Int) : Int) * 60 ≤ 2 ^ 27 := by decide +kernel
theorem upd_none {H : Hp} {a b : Addr} {o : HO} (h : upd H a o b = none) : b ≠ a ∧ H b = none := by
  by_cases e : b = a
  · subst e
    rw [upd_same] at h
    cases h
  · exact ⟨e, (upd_ne e).symm.trans h⟩
theorem Same.new {H : Hp} {p : Addr} {o : HO} (h : H p = none) : Same H (upd H p o) := fun b u e => by
  by_cases z : b = p
  · subst z
    rw [h] at e
    cases e
  · exact (upd_ne z).trans e
theorem sc_law_purse : FnScope ["_law_script", "_law_at", "_law_seed"] ["_law_script", "_law_at"] (defScope (topS 36)) :=
  ⟨rfl, rfl, rfl, by decide +kernel, rfl, by decide +kernel, by decide +kernel⟩
def spPurse (K : PySem.W.Frag) : Sp := fun vs H Q _ => match vs with
  | [.ref a, .int i] => ∃ ns : List Int, SqL K H a (ns.map V.int) ∧ 0 ≤ i ∧ i ≤ 63 ∧ ∀ p H', Same H H' → H p = none → Purse H' p 0 → Q (.ref p) H'
  | _ => False
theorem ok_purse (D : DefAt K mg "_law_purse" (topS 36) f fd) (T : Blt mg) : FnG P w K mg base 1 f fd ["_law_script", "_law_at"] (spPurse K) := by
  refine fun_ok D.F sc_law_purse (fun vs H Q E h => ?_) (fun cdv A outer s H vs Q E hr hgd h => ?_)
  · unfold spPurse at h
    split at h
    · rfl
    · exact h.elim
  · unfold spPurse at h
    split at h
    case h_2 => exact h.elim
    rename_i a i
    obtain ⟨ns, hs, h0, h1, q⟩ := h
    refine ⟨_, (pss_cons (ps_set (i := 2) sc_law_purse.nd rfl (Or.inl rfl) (pe_callB (cr_sum rfl) (by rfl) T.sum (by decide +kernel) (pa_cons (pe_slice sl_list (pv 0) (po_some (pv 1)) (po_some (pe_op op_add (pv 1) pe_int))) pa_nil)))
      (pss_one (ps_ret (pe_lst (pa_cons (pe_op op_mod (pe_callTy call_int1 (by rfl) T.int (by decide +kernel) (pa_cons (pe_callB (call_max2 rfl) (by rfl) T.max (by decide +kernel) (pa_cons (pe_op op_sub (pv 2) (pe_op op_powB pe_int pe_int)) (pa_cons pe_int pa_nil))) pa_nil)) (pe_op op_powB (pe_op op_powB pe_int pe_int) pe_int)) (pa_cons (pe_op op_mod (pe_callTy call_int1 (by rfl) T.int (by decide +kernel) (pa_cons (pv 2) pa_nil)) pe_int) (pa_cons pe_int (pa_cons (pv 1) pa_nil)))))))), ?_⟩
    obtain ⟨ms, hm⟩ := cutV_map ns (some i) (some (i + 1))
    simp [tSeq, tAsg, gName, tOp, tVar, tC, tCB, tCons, tNil, rI, rI0, tRet, start, tSl, tPart, rSum, rSlL, tLst]
    refine ⟨_, hs, fun p hp => ⟨ms, .inl (.inl ?_), by decide +kernel, _, _, ⟨rfl, rfl⟩, by decide +kernel, by decide +kernel, by decide +kernel, fun b hb => ?_⟩⟩
    · rw [upd_same, hm]
    · obtain ⟨nb, hb⟩ := upd_none hb
      refine q b _ (((Same.new hp).trans (Same.new ?_))) hb ⟨_, _, _, _, upd_same .., ?_, Int.emod_nonneg _ (by omega), Int.emod_lt_of_pos _ (by omega), by omega, by omega, h0, h1⟩
      · rw [upd_ne nb]
        exact hb
      · exact Int.emod_nonneg _ (by decide +kernel)
theorem Purse.upd {H : Hp} {a b : Addr} {c : Int} {o : HO} (h : Purse H a c) (n : a ≠ b) : Purse (upd H b o) a c := by
  obtain ⟨p0, p1, p2, p3, e, r⟩ := h
  exact ⟨p0, p1, p2, p3, (upd_ne n).trans e, r⟩
theorem Purse.same {H H' : Hp} {a : Addr} {c : Int} (h : Purse H a c) (s : Same H H') : Purse H' a c := by
  obtain ⟨p0, p1, p2, p3, e, r⟩ := h
  exact ⟨p0, p1, p2, p3, s _ _ e, r⟩
theorem Purse.some {H : Hp} {a : Addr} {c : Int} (h : Purse H a c) : H a ≠ none := by
  obtain ⟨p0, p1, p2, p3, e, r⟩ := h
  rw [e]
  exact fun z => by cases z
theorem Purse.le {H : Hp} {a : Addr} {c d : Int} (h : Purse H a c) (l : c ≤ d) : Purse H a d := by
  obtain ⟨p0, p1, p2, p3, e, a0, a1, a2, a3, a4, a5, a6⟩ := h
  exact ⟨p0, p1, p2, p3, e, a0, a1, a2, a3, by omega, a5, a6⟩
theorem sc_law_purses : FnScope ["_law_script", "_law_few", "_law_at"] ["_law_script", "_law_few"] (defScope (topS 39)) :=
  ⟨rfl, rfl, rfl, by decide +kernel, rfl, by decide +kernel, by decide +kernel⟩
/-- a list of purses -/
def Purses (H0 H : Hp) (D : Addr) (n : Nat) : Prop := ∃ ps : List Addr, ps.length = n ∧ ps.Nodup ∧ (∀ p ∈ ps, Purse H p 0 ∧ p ≠ D ∧ H0 p = none) ∧ H D = some (.lst (ps.map .ref))
def spPurses (K : PySem.W.Frag) : Sp := fun vs H Q _ => match vs with
  | [.ref a, .int few] => ∃ ns : List Int, SqL K H a (ns.map V.int) ∧ ns.length ≤ 63 ∧ few ≤ 63 ∧ ∀ D H' (n : Nat), 1 ≤ n → n ≤ 63 → (n ≤ few ∨ n = 1) → Same H H' → H D = none → Purses H H' D n → Q (.ref D) H'
  | _ => False
theorem ok_purses {fP : Addr} {fdP : FuncData} (D : DefAt K mg "_law_purses" (topS 39) f fd) (T : Blt mg) (C_law_purse : Cal P w K mg base 1 "_law_purse" fP fdP ["_law_script", "_law_at"] (spPurse K)) : FnG P w K mg base 2 f fd ["_law_script", "_law_few"] (spPurses K) := by
  refine fun_ok D.F sc_law_purses (fun vs H Q E h => ?_) (fun cdv A outer s H vs Q E hr hgd h => ?_)
  · unfold spPurses at h
    split at h
    · rfl
    · exact h.elim
  · unfold spPurses at h
    split at h
    case h_2 => exact h.elim
    rename_i a few
    obtain ⟨ns, hs, hn, hf, q⟩ := h
    refine ⟨_, (pss_one (ps_ret (pe_lc (own := [("_law_at", 2)]) (by rfl) sc_law_purses.nd (pi_range1 (by rfl) T.range (pa_cons (pe_callB (call_max2 rfl) (by rfl) T.max (by decide +kernel) (pa_cons pe_int (pa_cons (pe_callB (call_min2 rfl) (by rfl) T.min (by decide +kernel) (pa_cons (pv 1) (pa_cons (pe_callB call_len_seq (by rfl) T.len (by decide +kernel) (pa_cons (pv 0) pa_nil)) pa_nil))) pa_nil))) pa_nil)) (blkOk_by (N := ["_law_script", "_law_few", "_law_at"]) (sc := defScope (topS 39)) (own := [("_law_at", 2)]) (by decide +kernel)) (fun _ _ _ _ _ => (pg_name (i := 2) sc_law_purses.nd rfl (Or.inl rfl))) (fun _ _ _ _ _ => pts_nil) (fun _ _ _ _ _ => (pe_callC C_law_purse hr hgd (by rfl) (pa_cons (pv 0) (pa_cons (pv 2) pa_nil))))))), ?_⟩
    simp [tSeq, tAsg, gName, tOp, tVar, tC, tCB, tCons, tNil, rI, rI0, tRet, start, tLc_eq, iRng1]
    refine ⟨_, .inl hs, _, _, ⟨rfl, rfl⟩, _, _, ⟨rfl, rfl⟩, ?_⟩
    simp only [List.length_map]
    have e2 : ∃ m : Nat, 1 ≤ m ∧ m ≤ 63 ∧ ((m : Int) ≤ few ∨ m = 1) ∧ (if (1 : Int) < (if ((ns.length : Nat) : Int) < few then ((ns.length : Nat) : Int) else few) then (if ((ns.length : Nat) : Int) < few then ((ns.length : Nat) : Int) else few) else 1) = (m : Int) := by
      by_cases c1 : ((ns.length : Nat) : Int) < few
      · simp only [if_pos c1]
        by_cases c2 : (1 : Int) < ((ns.length : Nat) : Int)
        · rw [if_pos c2]
          exact ⟨ns.length, by omega, hn, .inl (by omega), rfl⟩
        · rw [if_neg c2]
          exact ⟨1, by omega, by omega, .inr rfl, rfl⟩
      · simp only [if_neg c1]
        by_cases c2 : (1 : Int) < few
        · rw [if_pos c2]
          exact ⟨few.toNat, by omega, by omega, .inl (by omega), by omega⟩
        · rw [if_neg c2]
          exact ⟨1, by omega, by omega, .inr rfl, rfl⟩
    obtain ⟨m, m1, m2, m3, em⟩ := e2
    rw [em]
    refine ⟨by omega, by omega, fun D hD => ?_⟩
    refine lcl_rng (fun i H' => ∃ ps : List Addr, ps.length = i ∧ ps.Nodup ∧ (∀ p ∈ ps, Purse H' p 0 ∧ p ≠ D ∧ H p = none) ∧ H' D = some (.lst (ps.map .ref)) ∧ Same H H') ⟨[], rfl, .nil, (by simp), upd_same .., Same.new hD⟩ ?_ ?_
    · rintro i H' hi ⟨ps, hl, hnd, hp, hD', hs'⟩
      have hi2 : i < m := by simpa using hi
      simp [gName, tYes, tCall, tCons, tNil, tVar, wipe, spPurse]
      refine ⟨⟨ns, hs'.seq hs⟩, by omega, fun p H2 e hp2 pp => ⟨_, e _ _ hD', ?_, ps ++ [p], ?_, ?_, ?_, ?_, ?_⟩⟩
      · rw [List.length_map, hl]
        have : sizeLine = 16777216 := by first | rfl | decide
        omega
      · simp [hl]
      · refine List.nodup_append.mpr ⟨hnd, by simp, ?_⟩
        intro a ha b hb
        rw [List.mem_singleton] at hb
        subst hb
        rintro rfl
        exact (hp _ ha).1.some hp2
      · intro x hx
        have nD : p ≠ D := by
          rintro rfl
          rw [hD'] at hp2
          cases hp2
        rcases List.mem_append.mp hx with hx | hx
        · obtain ⟨q1, q2, q3⟩ := hp x hx
          exact ⟨(q1.same e).upd q2, q2, q3⟩
        · rw [List.mem_singleton] at hx
          subst hx
          exact ⟨pp.upd nD, nD, hs'.free hp2⟩
      · simp
      · intro b o hb
        by_cases z : b = D
        · subst z
          rw [hD] at hb
          cases hb
        · exact (upd_ne z).trans (e _ _ (hs' _ _ hb))
    · rintro H' ⟨ps, hl, hnd, hp, hD', hs'⟩
      have hl2 : ps.length = m := by simpa using hl
      exact q D H' m m1 m2 (by rcases m3 with z | z; exact .inl z; exact .inr z) hs' hD ⟨ps, hl2, hnd, hp, hD'⟩
end K1
end L2
set_option maxHeartbeats 4000000
namespace L2
namespace K1
open PySem PySem.Spec PyProof.Rows Q1 TL
variable {P : Program} {w : World} {K : PySem.W.Frag} {mg : Str → Option Value} {base : Heap} {f : Addr} {fd : FuncData}
/-- all but a, that was there, is as it was -/
def Fr (a : Addr) (H H' : Hp) : Prop := ∀ b o, b ≠ a → H b = some o → H' b = some o
theorem Fr.rfl' {a : Addr} {H : Hp} : Fr a H H := fun _ _ _ h => h
theorem Fr.trans {a : Addr} {H H1 H2 : Hp} (x : Fr a H H1) (y : Fr a H1 H2) : Fr a H H2 := fun b o n h => y b o n (x b o n h)
theorem But.fr {a : Addr} {H H' : Hp} (h : But a H H') : Fr a H H' := fun b o n e => (h b n).trans e
theorem Same.fr {a : Addr} {H H' : Hp} (h : Same H H') : Fr a H H' := fun b o _ e => h b o e
theorem sc_law_one_of : FnScope ["_law_purse_here", "_law_some"] ["_law_purse_here", "_law_some"] (defScope (topS 40)) :=
  ⟨rfl, rfl, rfl, by decide +kernel, rfl, by decide +kernel, by decide +kernel⟩
def spOneOf : Sp := fun vs H Q _ => match vs with
  | [.ref p, .ref a] => ∃ (c : Int) (xs : List V), Purse H p c ∧ c ≤ 2 ^ 40 ∧ p ≠ a ∧ (vw H a = some (.lst xs) ∨ vw H a = some (.tup xs)) ∧ 0 < xs.length ∧ xs.length < 2 ^ 20 ∧ ∀ (i : Nat) x H', xs[i]? = some x → Purse H' p (c + 1) → But p H H' → Q x H'
  | _ => False
theorem But.vw {a b : Addr} {H H' : Hp} (h : But a H H') (n : b ≠ a) : vw H' b = vw H b := by
  unfold Q1.vw
  rw [h b n]
theorem atI_nat {α : Type} {xs : List α} {d : Int} (h0 : 0 ≤ d) (h : d < xs.length) : atI xs d = xs[d.toNat]? := by
  unfold atI ixN
  rw [if_pos h0, if_pos h]
  rfl
theorem ok_one_of {fD : Addr} {fdD : FuncData} (D : DefAt K mg "_law_one_of" (topS 40) f fd) (T : Blt mg) (C_law_draw : Cal P w K mg base 2 "_law_draw" fD fdD ["_law_purse_here", "_law_many"] spDraw) : FnG P w K mg base 3 f fd ["_law_purse_here", "_law_some"] spOneOf := by
  refine fun_ok D.F sc_law_one_of (fun vs H Q E h => ?_) (fun cdv A outer s H vs Q E hr hgd h => ?_)
  · unfold spOneOf at h
    split at h
    · rfl
    · exact h.elim
  · unfold spOneOf at h
    split at h
    case h_2 => exact h.elim
    rename_i p a
    obtain ⟨c, xs, hp, hc, na, ha, h0, h1, q⟩ := h
    refine ⟨_, (pss_one (ps_ret (pe_ix ix_d (pv 1) (pe_callC C_law_draw hr hgd (by rfl) (pa_cons (pv 0) (pa_cons (pe_callB len_d (by rfl) T.len (by decide +kernel) (pa_cons (pv 1) pa_nil)) pa_nil))) (fun _ _ => rfl)))), ?_⟩
    rcases ha with ha | ha
    · simp [tSeq, tAsg, gName, tOp, tVar, tC, tCB, tCons, tNil, rI, rI0, tRet, start, dLen, ha, tCall, spDraw]
      refine ⟨c, hp, by omega, by omega, by omega, fun d H' d0 d1 hp' hb => ?_⟩
      simp only [dIx, hb.vw (Ne.symm na), ha]
      refine ⟨d, xs[d.toNat]'(by omega), rfl, ?_, q d.toNat _ H' (List.getElem?_eq_getElem (by omega)) hp' hb⟩
      rw [atI_nat d0 d1, List.getElem?_eq_getElem (by omega)]
    · simp [tSeq, tAsg, gName, tOp, tVar, tC, tCB, tCons, tNil, rI, rI0, tRet, start, dLen, ha, tCall, spDraw]
      refine ⟨c, hp, by omega, by omega, by omega, fun d H' d0 d1 hp' hb => ?_⟩
      simp only [dIx, hb.vw (Ne.symm na), ha]
      refine ⟨d, xs[d.toNat]'(by omega), rfl, ?_, q d.toNat _ H' (List.getElem?_eq_getElem (by omega)) hp' hb⟩
      rw [atI_nat d0 d1, List.getElem?_eq_getElem (by omega)]
/-! ### a word -/
theorem sc_law_word : FnScope ["_law_purse_here", "_law_size", "_law_spin"] ["_law_purse_here"] (defScope (topS 41)) :=
  ⟨rfl, rfl, rfl, by decide +kernel, rfl, by decide +kernel, by decide +kernel⟩
/-- a word of at most so many small letters -/
def IsWord (n : Nat) (z : Str) : Prop := 1 ≤ z.length ∧ z.length ≤ n ∧ ∀ c ∈ tl z, 97 ≤ c ∧ c ≤ 122
def spWord : Sp := fun vs H Q _ => match vs with
  | [.ref p] => ∃ c : Int, Purse H p c ∧ c + 10 ≤ 2 ^ 40 ∧ ∀ z H', IsWord 8 z → Purse H' p (c + 10) → Fr p H H' → Q (.str z) H'
  | _ => False
theorem joinL_nil : ∀ ps : List (List Nat), joinL [] ps = ps.flatten
  | [] => rfl
  | [p] => by simp [joinL]
  | p :: q :: r => by
    rw [joinL, joinL_nil (q :: r)]
    simp
theorem sum_ones : ∀ cs : List Nat, (List.map (fun x : Str => x.length) (cs.map fun c => (⟨#[c]⟩ : Str))).sum = cs.length
  | [] => rfl
  | c :: r => by
    rw [List.map_cons, List.map_cons, List.sum_cons, sum_ones r, List.length_cons]
    show 1 + r.length = r.length + 1
    omega
theorem ones_flat : ∀ cs : List Nat, ((cs.map fun c => (⟨#[c]⟩ : Str)).map tl).flatten = cs
  | [] => rfl
  | c :: r => by
    rw [List.map_cons, List.map_cons, List.flatten_cons, ones_flat r]
    rfl
theorem letters : ∀ d : Nat, d < 26 → ∃ c, ("abcdefghijklmnopqrstuvwxyz" : Str).cps.toList[d]? = some c ∧ 97 ≤ c ∧ c ≤ 122 := by
  decide +kernel
theorem ok_word {fD : Addr} {fdD : FuncData} (D : DefAt K mg "_law_word" (topS 41) f fd) (T : Blt mg) (C_law_draw : Cal P w K mg base 2 "_law_draw" fD fdD ["_law_purse_here", "_law_many"] spDraw) : FnG P w K mg base 3 f fd ["_law_purse_here"] spWord := by
  refine fun_ok D.F sc_law_word (fun vs H Q E h => ?_) (fun cdv A outer s H vs Q E hr hgd h => ?_)
  · unfold spWord at h
    split at h
    · rfl
    · exact h.elim
  · unfold spWord at h
    split at h
    case h_2 => exact h.elim
    rename_i p
    obtain ⟨c, hp, hc, q⟩ := h
    refine ⟨_, (pss_cons (ps_set (i := 1) sc_law_word.nd rfl (Or.inl rfl) (pe_op op_add pe_int (pe_callC C_law_draw hr hgd (by rfl) (pa_cons (pv 0) (pa_cons (pe_ifExp (pt_cmpR op_eq (pe_callC C_law_draw hr hgd (by rfl) (pa_cons (pv 0) (pa_cons pe_int pa_nil))) pe_int (nomark _)) pe_int pe_int) pa_nil)))))
      (pss_one (ps_ret (pe_join pe_str (pe_lc (own := [("_law_spin", 2)]) (by rfl) sc_law_word.nd (pi_range1 (by rfl) T.range (pa_cons (pv 1) pa_nil)) (blkOk_by (N := ["_law_purse_here", "_law_size", "_law_spin"]) (sc := defScope (topS 41)) (own := [("_law_spin", 2)]) (by decide +kernel)) (fun _ _ _ _ _ => (pg_name (i := 2) sc_law_word.nd rfl (Or.inl rfl))) (fun _ _ _ _ _ => pts_nil) (fun _ _ _ _ _ => (pe_ix ix_d pe_str (pe_callC C_law_draw hr hgd (by rfl) (pa_cons (pv 0) (pa_cons pe_int pa_nil))) (fun _ _ => rfl)))))))), ?_⟩
    simp [tSeq, tAsg, gName, tOp, tVar, tC, tCB, tCons, tNil, rI, rI0, tRet, start, tLc_eq, iRng1, tCall, spDraw, tTest, tIf, rEq, scal, tM1]
    have key : ∀ (N : Int) (H1 : Hp) (c1 : Int) (D : Addr), 1 ≤ N → N ≤ 8 → c1 ≤ c + 2 → Purse H1 p c1 → Fr p H H1 → H1 D = none → LcLoop (Itr 0 N.toNat) (gName 2) tYes
        (tOp dIx (tC (V.str (Str.ofString "abcdefghijklmnopqrstuvwxyz"))) (tCall spDraw [] E0 (tCons (tVar 0) (tCons (tC (V.int 26)) tNil)))) [2] [some (V.ref p), some (V.int N), none] H1 D fun H_1 =>
          ∃ x, (SqL K H_1 D (List.map V.str x) ∨ SqT K H_1 D (List.map V.str x)) ∧ (List.map (fun x => x.length) x).sum + x.length * (Str.ofString "").length ≤ 16777216 ∧ Q (V.str (Txt.join (Str.ofString "") x)) H_1 := by
      intro N H1 c1 D n1 n8 lc hp1 f1 hD
      have pD : p ≠ D := by
        rintro rfl
        exact hp1.some hD
      refine lcl_rng (fun i H' => ∃ cs : List Nat, cs.length = i ∧ (∀ x ∈ cs, 97 ≤ x ∧ x ≤ 122) ∧ H' D = some (.lst (cs.map fun c => .str ⟨#[c]⟩)) ∧ Purse H' p (c1 + i) ∧ Fr p H H') ⟨[], rfl, (by simp), upd_same .., ?_, f1.trans (Same.fr (Same.new hD))⟩ ?_ ?_
      · simpa using hp1.upd pD
      · rintro i H' hi ⟨cs, hl, hc1, hD', hp', hf⟩
        have hi2 : i < 8 := by omega
        simp [gName, tYes, tCall, tCons, tNil, tVar, wipe, spDraw, tOp, tC]
        refine ⟨_, hp', by omega, fun d H2 d0 d1 p2 b2 => ?_⟩
        obtain ⟨ch, hch, l1, l2⟩ := letters d.toNat (by omega)
        simp only [dIx]
        refine ⟨d, ch, rfl, by decide +kernel, ?_, _, (b2 D (Ne.symm pD)).trans hD', ?_, cs ++ [ch], ?_, ?_, ?_, ?_, ?_⟩
        · rw [atI_nat d0 (by exact d1)]
          exact hch
        · rw [List.length_map, hl]
          have : sizeLine = 16777216 := by first | rfl | decide
          omega
        · simp [hl]
        · intro x hx
          rcases List.mem_append.mp hx with hx | hx
          · exact hc1 x hx
          · rw [List.mem_singleton] at hx
            subst hx
            exact ⟨l1, l2⟩
        · simp
        · exact (p2.upd pD).le (by omega)
        · intro b o nb hb
          by_cases z : b = D
          · subst z
            rw [f1 b o nb hb] at hD
            cases hD
          · exact (upd_ne z).trans (b2.fr b o nb (hf b o nb hb))
      · rintro H' ⟨cs, hl, hc1, hD', hp', hf⟩
        have hl2 : cs.length = N.toNat := hl
        have e1 : cs.map (fun c => V.str ⟨#[c]⟩) = (cs.map fun c => (⟨#[c]⟩ : Str)).map V.str := by rw [List.map_map]; rfl
        have e2 : (Str.ofString "").length = 0 := by decide +kernel
        have e3 : (List.map (fun x : Str => x.length) (cs.map fun c => (⟨#[c]⟩ : Str))).sum = cs.length := by
          exact sum_ones cs
        have e4 : tl (Txt.join (Str.ofString "") (cs.map fun c => (⟨#[c]⟩ : Str))) = cs := by
          have : tl (Str.ofString "") = [] := by decide +kernel
          rw [show Txt.join = Builtin.Str.glued from rfl, StrLaws.glued_eq_join, tl_join, this, joinL_nil, ones_flat]
        refine ⟨_, .inl (.inl (.inl (hD'.trans (by rw [e1])))), by rw [e3, e2]; omega, q _ H' ⟨?_, ?_, ?_⟩ (hp'.le (by omega)) hf⟩
        · show 1 ≤ (Txt.join _ _).length
          rw [len_tl, e4]
          omega
        · rw [len_tl, e4]
          omega
        · rw [e4]
          exact hc1
    refine ⟨c, hp, by omega, fun d H1 d0 d1 p1 b1 => ?_⟩
    split
    · exact ⟨c + 1, p1, by omega, fun e H2 e0 e1 p2 b2 => ⟨by omega, by omega, fun D hD => key _ _ _ D (by omega) (by omega) (by omega) p2 (b1.fr.trans b2.fr) hD⟩⟩
    · exact ⟨c + 1, p1, by omega, fun e H2 e0 e1 p2 b2 => ⟨by omega, by omega, fun D hD => key _ _ _ D (by omega) (by omega) (by omega) p2 (b1.fr.trans b2.fr) hD⟩⟩
end K1
end L2
set_option maxHeartbeats 4000000
namespace L2
namespace K1
open PySem PySem.Spec PyProof.Rows Q1
variable {P : Program} {w : World} {K : PySem.W.Frag} {mg : Str → Option Value} {base : Heap} {f : Addr} {fd : FuncData}
/-- the classes that take a value, as the law lists them -/
def names1 : List Str := ["InvalidTable", "InvalidKinds", "InvalidKind", "InvalidMap", "InvalidTriples", "InvalidRule", "InvalidThings", "InvalidBook", "InvalidTerm", "InvalidTerms", "InvalidWord", "InvalidCount", "InvalidPrices", "InvalidHolding", "InvalidWorld", "InvalidInputs", "InvalidLines", "InvalidProgram", "InvalidFolding", "InvalidBench", "InvalidSpot", "InvalidScript", "InvalidText", "InvalidRecord", "Unlike", "Unsettled", "Apart", "Refused", "InvalidGrants", "InvalidPairs", "InvalidAnswers"]
structure ErrAll (P : Program) (K : PySem.W.Frag) (mg : Str → Option Value) : Prop where
  su : mg "super" = none
  top : (P.main.scope.names.lookup ("super" : Str)).isSome = false
  ex : ∀ x ∈ names1, mg x = some (.ref (adr K x)) ∧ ErrA.ErrK P K (adr K x) (initAt K (adr K x)) ∧ ∃ fd, ErrA.IniK P K (adr K x) (initAt K (adr K x)) fd
theorem ErrAll.at {X : Cx} {x : Str} (T : ErrAll X.prog X.K X.mg) (h : x ∈ names1) : ErrX X x (adr X.K x) := by
  obtain ⟨h1, h2, fd, h3⟩ := T.ex x h
  exact ⟨h1, T.su, T.top, _, fd, h2, h3⟩
theorem isE_same {H H' : Hp} {a C : Addr} {y : V} (h : IsE H a C y) (s : Same H H') : IsE H' a C y := by
  obtain ⟨d, h1, h2⟩ := h
  exact ⟨d, s _ _ h1, s _ _ h2⟩
/-- errors of these classes, all with the value y -/
abbrev Errs (K : PySem.W.Frag) (H : Hp) (y : V) : List Addr → List Str → Prop := Paired fun a x => IsE H a (adr K x) y
theorem errs_same {H H' : Hp} {y : V} (s : Same H H') : ∀ {as : List Addr} {xs : List Str}, Errs K H y as xs → Errs K H' y as xs
  | _, _, .nil => .nil
  | _, _, .cons h t => .cons (isE_same h s) (errs_same s t)
theorem errs_app {H : Hp} {y : V} : ∀ {as bs : List Addr} {xs ys : List Str}, Errs K H y as xs → Errs K H y bs ys → Errs K H y (as ++ bs) (xs ++ ys)
  | _, _, _, _, .nil, h => h
  | _, _, _, _, .cons h t, q => .cons h (errs_app t q)
/-- a row of calls that makes errors of these classes with the value y -/
def MkE (K : PySem.W.Frag) (y : V) (σ : St) (t : TA) (xs : List Str) : Prop := ∀ H (Q : List V → Hp → Prop), (∀ as H', Same H H' → Errs K H' y as xs → Q (as.map .ref) H') → t σ H Q
theorem mk_nil {y : V} {σ : St} : MkE K y σ tNil [] := fun H Q h => h [] H (Same.refl H) .nil
theorem mk_cons {y : V} {σ : St} {te : TE} {t : TA} {x : Str} {xs : List Str} (h : ∀ H Q, rMk (adr K x) y H Q → te σ H Q) (ht : MkE K y σ t xs) : MkE K y σ (tCons te t) (x :: xs) := fun H Q q =>
  h H _ fun a H1 s1 _ e1 => ht H1 _ fun as H2 s2 e2 => q (a :: as) H2 (s1.trans s2) (.cons (isE_same e1 s2) e2)
theorem set_errs {y : V} {σ : St} {H : Hp} {t : TA} {xs : List Str} {j : Nat} {D : Ends} (h : MkE K y σ t xs) (hl : xs.length ≤ 40)
    (q : ∀ (L : Addr) as H', Same H H' → H L = none → H' L = some (.lst (as.map .ref)) → Errs K H' y as xs → D.nx (σ.set j (some (.ref L))) H') : tAsg (tLst t) (gName j) D σ H := by
  refine h H _ fun as H1 s1 e1 => ⟨?_, fun L hL => ?_⟩
  · rw [List.length_map, e1.length]
    exact Nat.le_trans hl (by decide +kernel)
  · exact q L as _ (s1.trans (Same.new hL)) (s1.free hL) (upd_same ..) (errs_same (Same.new hL) e1)
theorem more_errs {y : V} {σ : St} {H : Hp} {t : TA} {xs ys : List Str} {as0 : List Addr} {j : Nat} {L0 : Addr} {D : Ends} (h : MkE K y σ t ys) (hl : xs.length + ys.length ≤ 40) (hv : σ[j]? = some (some (.ref L0))) (h0 : H L0 = some (.lst (as0.map .ref))) (e0 : Errs K H y as0 xs)
    (q : ∀ (L : Addr) as H', Same H H' → H L = none → H' L = some (.lst (as.map .ref)) → Errs K H' y as (xs ++ ys) → D.nx (σ.set j (some (.ref L))) H') : tAsg (tOp dAdd (tVar j) (tLst t)) (gName j) D σ H := by
  have l40 : (40 : Nat) ≤ sizeLine := by decide +kernel
  refine ⟨_, hv, h H _ fun as H1 s1 e1 => ⟨?_, fun L hL => ?_⟩⟩
  · rw [List.length_map, e1.length]
    omega
  · have s2 : Same H (upd H1 L (.lst (as.map .ref))) := s1.trans (Same.new hL)
    show dAdd _ _ _ _
    simp only [dAdd, s2 _ _ h0, upd_same]
    refine ⟨?_, fun L2 hL2 => ?_⟩
    · rw [List.length_map, List.length_map, e1.length, e0.length]
      omega
    · have s3 := s2.trans (Same.new (o := .lst (as0.map V.ref ++ as.map V.ref)) hL2)
      refine q L2 (as0 ++ as) _ s3 (s2.free hL2) ?_ (errs_app (errs_same s3 e0) (errs_same ((Same.new hL).trans (Same.new hL2)) e1))
      rw [upd_same, List.map_append]
theorem sc_law_first : FnScope ["_law_thing", "_law_found"] ["_law_thing"] (defScope (topS 42)) :=
  ⟨rfl, rfl, rfl, by decide +kernel, rfl, by decide +kernel, by decide +kernel⟩
def spErrs (K : PySem.W.Frag) : Sp := fun vs H Q _ => match vs with
  | [v] => ∀ (L : Addr) as H', Same H H' → H L = none → H' L = some (.lst (as.map .ref)) → Errs K H' v as names1 → Q (.ref L) H'
  | _ => False
def spBare (K : PySem.W.Frag) : Sp := fun vs H Q _ => match vs with
  | [] => ∀ (L : Addr) as H', Same H H' → H L = none → H' L = some (.lst (as.map .ref)) → Errs K H' .non as names1 → Q (.ref L) H'
  | _ => False
theorem ok_first (D : DefAt K mg "_law_first" (topS 42) f fd) (TE : ErrAll P K mg) : FnG P w K mg base 2 f fd ["_law_thing"] (spErrs K) := by
  refine fun_ok D.F sc_law_first (fun vs H Q E h => ?_) (fun cdv A outer s H vs Q E hr hgd h => ?_)
  · unfold spErrs at h
    split at h
    · rfl
    · exact h.elim
  · unfold spErrs at h
    split at h
    case h_2 => exact h.elim
    rename_i v
    refine ⟨_, (pss_cons (ps_set (i := 1) sc_law_first.nd rfl (Or.inl rfl) (pe_lst (pa_cons (pe_err1 (TE.at (x := "InvalidTable") (by decide +kernel)) hr (by rfl) (pv 0)) (pa_cons (pe_err1 (TE.at (x := "InvalidKinds") (by decide +kernel)) hr (by rfl) (pv 0)) (pa_cons (pe_err1 (TE.at (x := "InvalidKind") (by decide +kernel)) hr (by rfl) (pv 0)) (pa_cons (pe_err1 (TE.at (x := "InvalidMap") (by decide +kernel)) hr (by rfl) (pv 0)) pa_nil))))))
      (pss_cons (ps_set (i := 1) sc_law_first.nd rfl (Or.inl rfl) (pe_op add_d (pv 1) (pe_lst (pa_cons (pe_err1 (TE.at (x := "InvalidTriples") (by decide +kernel)) hr (by rfl) (pv 0)) (pa_cons (pe_err1 (TE.at (x := "InvalidRule") (by decide +kernel)) hr (by rfl) (pv 0)) (pa_cons (pe_err1 (TE.at (x := "InvalidThings") (by decide +kernel)) hr (by rfl) (pv 0)) (pa_cons (pe_err1 (TE.at (x := "InvalidBook") (by decide +kernel)) hr (by rfl) (pv 0)) pa_nil)))))))
      (pss_cons (ps_set (i := 1) sc_law_first.nd rfl (Or.inl rfl) (pe_op add_d (pv 1) (pe_lst (pa_cons (pe_err1 (TE.at (x := "InvalidTerm") (by decide +kernel)) hr (by rfl) (pv 0)) (pa_cons (pe_err1 (TE.at (x := "InvalidTerms") (by decide +kernel)) hr (by rfl) (pv 0)) (pa_cons (pe_err1 (TE.at (x := "InvalidWord") (by decide +kernel)) hr (by rfl) (pv 0)) (pa_cons (pe_err1 (TE.at (x := "InvalidCount") (by decide +kernel)) hr (by rfl) (pv 0)) pa_nil)))))))
      (pss_cons (ps_set (i := 1) sc_law_first.nd rfl (Or.inl rfl) (pe_op add_d (pv 1) (pe_lst (pa_cons (pe_err1 (TE.at (x := "InvalidPrices") (by decide +kernel)) hr (by rfl) (pv 0)) (pa_cons (pe_err1 (TE.at (x := "InvalidHolding") (by decide +kernel)) hr (by rfl) (pv 0)) (pa_cons (pe_err1 (TE.at (x := "InvalidWorld") (by decide +kernel)) hr (by rfl) (pv 0)) (pa_cons (pe_err1 (TE.at (x := "InvalidInputs") (by decide +kernel)) hr (by rfl) (pv 0)) pa_nil)))))))
      (pss_cons (ps_set (i := 1) sc_law_first.nd rfl (Or.inl rfl) (pe_op add_d (pv 1) (pe_lst (pa_cons (pe_err1 (TE.at (x := "InvalidLines") (by decide +kernel)) hr (by rfl) (pv 0)) (pa_cons (pe_err1 (TE.at (x := "InvalidProgram") (by decide +kernel)) hr (by rfl) (pv 0)) (pa_cons (pe_err1 (TE.at (x := "InvalidFolding") (by decide +kernel)) hr (by rfl) (pv 0)) (pa_cons (pe_err1 (TE.at (x := "InvalidBench") (by decide +kernel)) hr (by rfl) (pv 0)) pa_nil)))))))
      (pss_cons (ps_set (i := 1) sc_law_first.nd rfl (Or.inl rfl) (pe_op add_d (pv 1) (pe_lst (pa_cons (pe_err1 (TE.at (x := "InvalidSpot") (by decide +kernel)) hr (by rfl) (pv 0)) (pa_cons (pe_err1 (TE.at (x := "InvalidScript") (by decide +kernel)) hr (by rfl) (pv 0)) (pa_cons (pe_err1 (TE.at (x := "InvalidText") (by decide +kernel)) hr (by rfl) (pv 0)) (pa_cons (pe_err1 (TE.at (x := "InvalidRecord") (by decide +kernel)) hr (by rfl) (pv 0)) pa_nil)))))))
      (pss_cons (ps_set (i := 1) sc_law_first.nd rfl (Or.inl rfl) (pe_op add_d (pv 1) (pe_lst (pa_cons (pe_err1 (TE.at (x := "Unlike") (by decide +kernel)) hr (by rfl) (pv 0)) (pa_cons (pe_err1 (TE.at (x := "Unsettled") (by decide +kernel)) hr (by rfl) (pv 0)) (pa_cons (pe_err1 (TE.at (x := "Apart") (by decide +kernel)) hr (by rfl) (pv 0)) (pa_cons (pe_err1 (TE.at (x := "Refused") (by decide +kernel)) hr (by rfl) (pv 0)) pa_nil)))))))
      (pss_cons (ps_set (i := 1) sc_law_first.nd rfl (Or.inl rfl) (pe_op add_d (pv 1) (pe_lst (pa_cons (pe_err1 (TE.at (x := "InvalidGrants") (by decide +kernel)) hr (by rfl) (pv 0)) (pa_cons (pe_err1 (TE.at (x := "InvalidPairs") (by decide +kernel)) hr (by rfl) (pv 0)) (pa_cons (pe_err1 (TE.at (x := "InvalidAnswers") (by decide +kernel)) hr (by rfl) (pv 0)) pa_nil))))))
      (pss_one (ps_ret (pv 1))))))))))), ?_⟩
    refine set_errs (K := K) (xs := ["InvalidTable", "InvalidKinds", "InvalidKind", "InvalidMap"]) (y := v) (by repeat (first | exact mk_nil | refine mk_cons (fun H Q h => ⟨_, by rfl, h⟩) ?_)) (by decide) (fun L1 as1 H1 s1 n1 l1 e1 => ?_)
    refine more_errs (K := K) (ys := ["InvalidTriples", "InvalidRule", "InvalidThings", "InvalidBook"]) (y := v) (by repeat (first | exact mk_nil | refine mk_cons (fun H Q h => ⟨_, by rfl, h⟩) ?_)) (by decide) (by rfl) l1 e1 (fun L2 as2 H2 s2 n2 l2 e2 => ?_)
    refine more_errs (K := K) (ys := ["InvalidTerm", "InvalidTerms", "InvalidWord", "InvalidCount"]) (y := v) (by repeat (first | exact mk_nil | refine mk_cons (fun H Q h => ⟨_, by rfl, h⟩) ?_)) (by decide) (by rfl) l2 e2 (fun L3 as3 H3 s3 n3 l3 e3 => ?_)
    refine more_errs (K := K) (ys := ["InvalidPrices", "InvalidHolding", "InvalidWorld", "InvalidInputs"]) (y := v) (by repeat (first | exact mk_nil | refine mk_cons (fun H Q h => ⟨_, by rfl, h⟩) ?_)) (by decide) (by rfl) l3 e3 (fun L4 as4 H4 s4 n4 l4 e4 => ?_)
    refine more_errs (K := K) (ys := ["InvalidLines", "InvalidProgram", "InvalidFolding", "InvalidBench"]) (y := v) (by repeat (first | exact mk_nil | refine mk_cons (fun H Q h => ⟨_, by rfl, h⟩) ?_)) (by decide) (by rfl) l4 e4 (fun L5 as5 H5 s5 n5 l5 e5 => ?_)
    refine more_errs (K := K) (ys := ["InvalidSpot", "InvalidScript", "InvalidText", "InvalidRecord"]) (y := v) (by repeat (first | exact mk_nil | refine mk_cons (fun H Q h => ⟨_, by rfl, h⟩) ?_)) (by decide) (by rfl) l5 e5 (fun L6 as6 H6 s6 n6 l6 e6 => ?_)
    refine more_errs (K := K) (ys := ["Unlike", "Unsettled", "Apart", "Refused"]) (y := v) (by repeat (first | exact mk_nil | refine mk_cons (fun H Q h => ⟨_, by rfl, h⟩) ?_)) (by decide) (by rfl) l6 e6 (fun L7 as7 H7 s7 n7 l7 e7 => ?_)
    refine more_errs (K := K) (ys := ["InvalidGrants", "InvalidPairs", "InvalidAnswers"]) (y := v) (by repeat (first | exact mk_nil | refine mk_cons (fun H Q h => ⟨_, by rfl, h⟩) ?_)) (by decide) (by rfl) l7 e7 (fun L8 as8 H8 s8 n8 l8 e8 => ?_)
    exact ⟨_, by rfl, h L8 as8 H8 (((((((s1.trans s2).trans s3).trans s4).trans s5).trans s6).trans s7).trans s8) (((((((s1.trans s2).trans s3).trans s4).trans s5).trans s6).trans s7).free n8) l8 e8⟩
theorem sc_law_called : FnScope ["_law_thing", "_law_found"] ["_law_thing"] (defScope (topS 43)) :=
  ⟨rfl, rfl, rfl, by decide +kernel, rfl, by decide +kernel, by decide +kernel⟩
theorem ok_called (D : DefAt K mg "_law_called" (topS 43) f fd) (TE : ErrAll P K mg) : FnG P w K mg base 2 f fd ["_law_thing"] (spErrs K) := by
  refine fun_ok D.F sc_law_called (fun vs H Q E h => ?_) (fun cdv A outer s H vs Q E hr hgd h => ?_)
  · unfold spErrs at h
    split at h
    · rfl
    · exact h.elim
  · unfold spErrs at h
    split at h
    case h_2 => exact h.elim
    rename_i v
    refine ⟨_, (pss_cons (ps_set (i := 1) sc_law_called.nd rfl (Or.inl rfl) (pe_lst (pa_cons (pe_errK (TE.at (x := "InvalidTable") (by decide +kernel)) hr (by rfl) (pv 0)) (pa_cons (pe_errK (TE.at (x := "InvalidKinds") (by decide +kernel)) hr (by rfl) (pv 0)) (pa_cons (pe_errK (TE.at (x := "InvalidKind") (by decide +kernel)) hr (by rfl) (pv 0)) pa_nil)))))
      (pss_cons (ps_set (i := 1) sc_law_called.nd rfl (Or.inl rfl) (pe_op add_d (pv 1) (pe_lst (pa_cons (pe_errK (TE.at (x := "InvalidMap") (by decide +kernel)) hr (by rfl) (pv 0)) (pa_cons (pe_errK (TE.at (x := "InvalidTriples") (by decide +kernel)) hr (by rfl) (pv 0)) (pa_cons (pe_errK (TE.at (x := "InvalidRule") (by decide +kernel)) hr (by rfl) (pv 0)) pa_nil))))))
      (pss_cons (ps_set (i := 1) sc_law_called.nd rfl (Or.inl rfl) (pe_op add_d (pv 1) (pe_lst (pa_cons (pe_errK (TE.at (x := "InvalidThings") (by decide +kernel)) hr (by rfl) (pv 0)) (pa_cons (pe_errK (TE.at (x := "InvalidBook") (by decide +kernel)) hr (by rfl) (pv 0)) (pa_cons (pe_errK (TE.at (x := "InvalidTerm") (by decide +kernel)) hr (by rfl) (pv 0)) pa_nil))))))
      (pss_cons (ps_set (i := 1) sc_law_called.nd rfl (Or.inl rfl) (pe_op add_d (pv 1) (pe_lst (pa_cons (pe_errK (TE.at (x := "InvalidTerms") (by decide +kernel)) hr (by rfl) (pv 0)) (pa_cons (pe_errK (TE.at (x := "InvalidWord") (by decide +kernel)) hr (by rfl) (pv 0)) (pa_cons (pe_errK (TE.at (x := "InvalidCount") (by decide +kernel)) hr (by rfl) (pv 0)) pa_nil))))))
      (pss_cons (ps_set (i := 1) sc_law_called.nd rfl (Or.inl rfl) (pe_op add_d (pv 1) (pe_lst (pa_cons (pe_errK (TE.at (x := "InvalidPrices") (by decide +kernel)) hr (by rfl) (pv 0)) (pa_cons (pe_errK (TE.at (x := "InvalidHolding") (by decide +kernel)) hr (by rfl) (pv 0)) (pa_cons (pe_errK (TE.at (x := "InvalidWorld") (by decide +kernel)) hr (by rfl) (pv 0)) pa_nil))))))
      (pss_cons (ps_set (i := 1) sc_law_called.nd rfl (Or.inl rfl) (pe_op add_d (pv 1) (pe_lst (pa_cons (pe_errK (TE.at (x := "InvalidInputs") (by decide +kernel)) hr (by rfl) (pv 0)) (pa_cons (pe_errK (TE.at (x := "InvalidLines") (by decide +kernel)) hr (by rfl) (pv 0)) (pa_cons (pe_errK (TE.at (x := "InvalidProgram") (by decide +kernel)) hr (by rfl) (pv 0)) pa_nil))))))
      (pss_cons (ps_set (i := 1) sc_law_called.nd rfl (Or.inl rfl) (pe_op add_d (pv 1) (pe_lst (pa_cons (pe_errK (TE.at (x := "InvalidFolding") (by decide +kernel)) hr (by rfl) (pv 0)) (pa_cons (pe_errK (TE.at (x := "InvalidBench") (by decide +kernel)) hr (by rfl) (pv 0)) (pa_cons (pe_errK (TE.at (x := "InvalidSpot") (by decide +kernel)) hr (by rfl) (pv 0)) pa_nil))))))
      (pss_cons (ps_set (i := 1) sc_law_called.nd rfl (Or.inl rfl) (pe_op add_d (pv 1) (pe_lst (pa_cons (pe_errK (TE.at (x := "InvalidScript") (by decide +kernel)) hr (by rfl) (pv 0)) (pa_cons (pe_errK (TE.at (x := "InvalidText") (by decide +kernel)) hr (by rfl) (pv 0)) (pa_cons (pe_errK (TE.at (x := "InvalidRecord") (by decide +kernel)) hr (by rfl) (pv 0)) pa_nil))))))
      (pss_cons (ps_set (i := 1) sc_law_called.nd rfl (Or.inl rfl) (pe_op add_d (pv 1) (pe_lst (pa_cons (pe_errK (TE.at (x := "Unlike") (by decide +kernel)) hr (by rfl) (pv 0)) (pa_cons (pe_errK (TE.at (x := "Unsettled") (by decide +kernel)) hr (by rfl) (pv 0)) (pa_cons (pe_errK (TE.at (x := "Apart") (by decide +kernel)) hr (by rfl) (pv 0)) (pa_cons (pe_errK (TE.at (x := "Refused") (by decide +kernel)) hr (by rfl) (pv 0)) pa_nil)))))))
      (pss_cons (ps_set (i := 1) sc_law_called.nd rfl (Or.inl rfl) (pe_op add_d (pv 1) (pe_lst (pa_cons (pe_errK (TE.at (x := "InvalidGrants") (by decide +kernel)) hr (by rfl) (pv 0)) (pa_cons (pe_errK (TE.at (x := "InvalidPairs") (by decide +kernel)) hr (by rfl) (pv 0)) (pa_cons (pe_errK (TE.at (x := "InvalidAnswers") (by decide +kernel)) hr (by rfl) (pv 0)) pa_nil))))))
      (pss_one (ps_ret (pv 1))))))))))))), ?_⟩
    refine set_errs (K := K) (xs := ["InvalidTable", "InvalidKinds", "InvalidKind"]) (y := v) (by repeat (first | exact mk_nil | refine mk_cons (fun H Q h => ⟨_, by rfl, h⟩) ?_)) (by decide) (fun L1 as1 H1 s1 n1 l1 e1 => ?_)
    refine more_errs (K := K) (ys := ["InvalidMap", "InvalidTriples", "InvalidRule"]) (y := v) (by repeat (first | exact mk_nil | refine mk_cons (fun H Q h => ⟨_, by rfl, h⟩) ?_)) (by decide) (by rfl) l1 e1 (fun L2 as2 H2 s2 n2 l2 e2 => ?_)
    refine more_errs (K := K) (ys := ["InvalidThings", "InvalidBook", "InvalidTerm"]) (y := v) (by repeat (first | exact mk_nil | refine mk_cons (fun H Q h => ⟨_, by rfl, h⟩) ?_)) (by decide) (by rfl) l2 e2 (fun L3 as3 H3 s3 n3 l3 e3 => ?_)
    refine more_errs (K := K) (ys := ["InvalidTerms", "InvalidWord", "InvalidCount"]) (y := v) (by repeat (first | exact mk_nil | refine mk_cons (fun H Q h => ⟨_, by rfl, h⟩) ?_)) (by decide) (by rfl) l3 e3 (fun L4 as4 H4 s4 n4 l4 e4 => ?_)
    refine more_errs (K := K) (ys := ["InvalidPrices", "InvalidHolding", "InvalidWorld"]) (y := v) (by repeat (first | exact mk_nil | refine mk_cons (fun H Q h => ⟨_, by rfl, h⟩) ?_)) (by decide) (by rfl) l4 e4 (fun L5 as5 H5 s5 n5 l5 e5 => ?_)
    refine more_errs (K := K) (ys := ["InvalidInputs", "InvalidLines", "InvalidProgram"]) (y := v) (by repeat (first | exact mk_nil | refine mk_cons (fun H Q h => ⟨_, by rfl, h⟩) ?_)) (by decide) (by rfl) l5 e5 (fun L6 as6 H6 s6 n6 l6 e6 => ?_)
    refine more_errs (K := K) (ys := ["InvalidFolding", "InvalidBench", "InvalidSpot"]) (y := v) (by repeat (first | exact mk_nil | refine mk_cons (fun H Q h => ⟨_, by rfl, h⟩) ?_)) (by decide) (by rfl) l6 e6 (fun L7 as7 H7 s7 n7 l7 e7 => ?_)
    refine more_errs (K := K) (ys := ["InvalidScript", "InvalidText", "InvalidRecord"]) (y := v) (by repeat (first | exact mk_nil | refine mk_cons (fun H Q h => ⟨_, by rfl, h⟩) ?_)) (by decide) (by rfl) l7 e7 (fun L8 as8 H8 s8 n8 l8 e8 => ?_)
    refine more_errs (K := K) (ys := ["Unlike", "Unsettled", "Apart", "Refused"]) (y := v) (by repeat (first | exact mk_nil | refine mk_cons (fun H Q h => ⟨_, by rfl, h⟩) ?_)) (by decide) (by rfl) l8 e8 (fun L9 as9 H9 s9 n9 l9 e9 => ?_)
    refine more_errs (K := K) (ys := ["InvalidGrants", "InvalidPairs", "InvalidAnswers"]) (y := v) (by repeat (first | exact mk_nil | refine mk_cons (fun H Q h => ⟨_, by rfl, h⟩) ?_)) (by decide) (by rfl) l9 e9 (fun L10 as10 H10 s10 n10 l10 e10 => ?_)
    exact ⟨_, by rfl, h L10 as10 H10 (((((((((s1.trans s2).trans s3).trans s4).trans s5).trans s6).trans s7).trans s8).trans s9).trans s10) (((((((((s1.trans s2).trans s3).trans s4).trans s5).trans s6).trans s7).trans s8).trans s9).free n10) l10 e10⟩
theorem sc_law_bare : FnScope ["_law_found"] [] (defScope (topS 44)) :=
  ⟨rfl, rfl, rfl, by decide +kernel, rfl, by decide +kernel, by decide +kernel⟩
theorem ok_bare (D : DefAt K mg "_law_bare" (topS 44) f fd) (TE : ErrAll P K mg) : FnG P w K mg base 2 f fd [] (spBare K) := by
  refine fun_ok D.F sc_law_bare (fun vs H Q E h => ?_) (fun cdv A outer s H vs Q E hr hgd h => ?_)
  · unfold spBare at h
    split at h
    · rfl
    · exact h.elim
  · unfold spBare at h
    split at h
    case h_2 => exact h.elim
    refine ⟨_, (pss_cons (ps_set (i := 0) sc_law_bare.nd rfl (Or.inl rfl) (pe_lst (pa_cons (pe_err0 (TE.at (x := "InvalidTable") (by decide +kernel)) hr (by rfl)) (pa_cons (pe_err0 (TE.at (x := "InvalidKinds") (by decide +kernel)) hr (by rfl)) (pa_cons (pe_err0 (TE.at (x := "InvalidKind") (by decide +kernel)) hr (by rfl)) (pa_cons (pe_err0 (TE.at (x := "InvalidMap") (by decide +kernel)) hr (by rfl)) (pa_cons (pe_err0 (TE.at (x := "InvalidTriples") (by decide +kernel)) hr (by rfl)) (pa_cons (pe_err0 (TE.at (x := "InvalidRule") (by decide +kernel)) hr (by rfl)) pa_nil))))))))
      (pss_cons (ps_set (i := 0) sc_law_bare.nd rfl (Or.inl rfl) (pe_op add_d (pv 0) (pe_lst (pa_cons (pe_err0 (TE.at (x := "InvalidThings") (by decide +kernel)) hr (by rfl)) (pa_cons (pe_err0 (TE.at (x := "InvalidBook") (by decide +kernel)) hr (by rfl)) (pa_cons (pe_err0 (TE.at (x := "InvalidTerm") (by decide +kernel)) hr (by rfl)) (pa_cons (pe_err0 (TE.at (x := "InvalidTerms") (by decide +kernel)) hr (by rfl)) (pa_cons (pe_err0 (TE.at (x := "InvalidWord") (by decide +kernel)) hr (by rfl)) (pa_cons (pe_err0 (TE.at (x := "InvalidCount") (by decide +kernel)) hr (by rfl)) pa_nil)))))))))
      (pss_cons (ps_set (i := 0) sc_law_bare.nd rfl (Or.inl rfl) (pe_op add_d (pv 0) (pe_lst (pa_cons (pe_err0 (TE.at (x := "InvalidPrices") (by decide +kernel)) hr (by rfl)) (pa_cons (pe_err0 (TE.at (x := "InvalidHolding") (by decide +kernel)) hr (by rfl)) (pa_cons (pe_err0 (TE.at (x := "InvalidWorld") (by decide +kernel)) hr (by rfl)) (pa_cons (pe_err0 (TE.at (x := "InvalidInputs") (by decide +kernel)) hr (by rfl)) (pa_cons (pe_err0 (TE.at (x := "InvalidLines") (by decide +kernel)) hr (by rfl)) pa_nil))))))))
      (pss_cons (ps_set (i := 0) sc_law_bare.nd rfl (Or.inl rfl) (pe_op add_d (pv 0) (pe_lst (pa_cons (pe_err0 (TE.at (x := "InvalidProgram") (by decide +kernel)) hr (by rfl)) (pa_cons (pe_err0 (TE.at (x := "InvalidFolding") (by decide +kernel)) hr (by rfl)) (pa_cons (pe_err0 (TE.at (x := "InvalidBench") (by decide +kernel)) hr (by rfl)) (pa_cons (pe_err0 (TE.at (x := "InvalidSpot") (by decide +kernel)) hr (by rfl)) (pa_cons (pe_err0 (TE.at (x := "InvalidScript") (by decide +kernel)) hr (by rfl)) pa_nil))))))))
      (pss_cons (ps_set (i := 0) sc_law_bare.nd rfl (Or.inl rfl) (pe_op add_d (pv 0) (pe_lst (pa_cons (pe_err0 (TE.at (x := "InvalidText") (by decide +kernel)) hr (by rfl)) (pa_cons (pe_err0 (TE.at (x := "InvalidRecord") (by decide +kernel)) hr (by rfl)) (pa_cons (pe_err0 (TE.at (x := "Unlike") (by decide +kernel)) hr (by rfl)) (pa_cons (pe_err0 (TE.at (x := "Unsettled") (by decide +kernel)) hr (by rfl)) (pa_cons (pe_err0 (TE.at (x := "Apart") (by decide +kernel)) hr (by rfl)) (pa_cons (pe_err0 (TE.at (x := "Refused") (by decide +kernel)) hr (by rfl)) pa_nil)))))))))
      (pss_cons (ps_set (i := 0) sc_law_bare.nd rfl (Or.inl rfl) (pe_op add_d (pv 0) (pe_lst (pa_cons (pe_err0 (TE.at (x := "InvalidGrants") (by decide +kernel)) hr (by rfl)) (pa_cons (pe_err0 (TE.at (x := "InvalidPairs") (by decide +kernel)) hr (by rfl)) (pa_cons (pe_err0 (TE.at (x := "InvalidAnswers") (by decide +kernel)) hr (by rfl)) pa_nil))))))
      (pss_one (ps_ret (pv 0))))))))), ?_⟩
    refine set_errs (K := K) (xs := ["InvalidTable", "InvalidKinds", "InvalidKind", "InvalidMap", "InvalidTriples", "InvalidRule"]) (y := .non) (by repeat (first | exact mk_nil | refine mk_cons (fun H Q h => h) ?_)) (by decide) (fun L1 as1 H1 s1 n1 l1 e1 => ?_)
    refine more_errs (K := K) (ys := ["InvalidThings", "InvalidBook", "InvalidTerm", "InvalidTerms", "InvalidWord", "InvalidCount"]) (y := .non) (by repeat (first | exact mk_nil | refine mk_cons (fun H Q h => h) ?_)) (by decide) (by rfl) l1 e1 (fun L2 as2 H2 s2 n2 l2 e2 => ?_)
    refine more_errs (K := K) (ys := ["InvalidPrices", "InvalidHolding", "InvalidWorld", "InvalidInputs", "InvalidLines"]) (y := .non) (by repeat (first | exact mk_nil | refine mk_cons (fun H Q h => h) ?_)) (by decide) (by rfl) l2 e2 (fun L3 as3 H3 s3 n3 l3 e3 => ?_)
    refine more_errs (K := K) (ys := ["InvalidProgram", "InvalidFolding", "InvalidBench", "InvalidSpot", "InvalidScript"]) (y := .non) (by repeat (first | exact mk_nil | refine mk_cons (fun H Q h => h) ?_)) (by decide) (by rfl) l3 e3 (fun L4 as4 H4 s4 n4 l4 e4 => ?_)
    refine more_errs (K := K) (ys := ["InvalidText", "InvalidRecord", "Unlike", "Unsettled", "Apart", "Refused"]) (y := .non) (by repeat (first | exact mk_nil | refine mk_cons (fun H Q h => h) ?_)) (by decide) (by rfl) l4 e4 (fun L5 as5 H5 s5 n5 l5 e5 => ?_)
    refine more_errs (K := K) (ys := ["InvalidGrants", "InvalidPairs", "InvalidAnswers"]) (y := .non) (by repeat (first | exact mk_nil | refine mk_cons (fun H Q h => h) ?_)) (by decide) (by rfl) l5 e5 (fun L6 as6 H6 s6 n6 l6 e6 => ?_)
    exact ⟨_, by rfl, h L6 as6 H6 (((((s1.trans s2).trans s3).trans s4).trans s5).trans s6) (((((s1.trans s2).trans s3).trans s4).trans s5).free n6) l6 e6⟩
end K1
end L2
set_option maxHeartbeats 4000000
namespace L2
namespace K1
open PySem PySem.Spec PyProof.Rows Q1
variable {P : Program} {w : World} {K : PySem.W.Frag} {mg : Str → Option Value} {base : Heap} {f : Addr} {fd : FuncData}
def names33 : List Str := names1 ++ (["NothingToUndo", "NothingToRedo"] : List Str)
def names34 : List Str := names33 ++ (["SpreadError"] : List Str)
/-- an error of the class x is one of the class y -/
def isC (x y : Str) : Bool := x == y || y == ("SpreadError" : Str)
structure Clss (K : PySem.W.Frag) (mg : Str → Option Value) : Prop where
  g : ∀ x ∈ names34, mg x = some (.ref (adr K x))
  G : ∀ x ∈ names34, ErrG K (adr K x)
  kit : ∀ x ∈ names34, ∀ y ∈ names34, PySem.W.kitOne K (.ref (adr K x)) (.ref (adr K y)) = some (isC x y)
  kitV : ∀ x ∈ names34, PySem.W.kitOne K (.ref (adr K x)) (.type "ValueError") = some true
  val : ∀ x ∈ names1, PySem.W.findIn K (.ref (adr K x)) "value" = some none
/-- a row of tests of the error at a -/
def CkE (K : PySem.W.Frag) (a : Addr) (x : Str) (σ : St) (t : TA) (bs : List Bool) : Prop := ∀ H (Q : List V → Hp → Prop), IsE0 H a (adr K x) → Q (bs.map .bl) H → t σ H Q
theorem ck_nil {a : Addr} {x : Str} {σ : St} : CkE K a x σ tNil [] := fun H Q _ h => h
theorem ck_cons {a : Addr} {x y : Str} {σ : St} {t : TA} {ys : List Str} (CE : Clss K mg) (hx : x ∈ names34) (hs : σ[0]? = some (some (.ref a))) (hy : y ∈ names34) (ht : CkE K a x σ t (ys.map (isC x))) :
    CkE K a x σ (tCons (tCB (rIsErr K) (tCons (tVar 0) (tCons (tC (.ref (adr K y))) tNil))) t) ((y :: ys).map (isC x)) := fun H Q i q =>
  ⟨_, hs, a, adr K x, _, _, _, rfl, i, CE.G x hx, fun u r => r, CE.kit x hx y hy, ht H _ i q⟩
theorem set_bls {a : Addr} {x : Str} {σ : St} {H : Hp} {t : TA} {bs : List Bool} {j : Nat} {D : Ends} (h : CkE K a x σ t bs) (ia : IsE0 H a (adr K x)) (hl : bs.length ≤ 40)
    (q : ∀ (L : Addr) H', Same H H' → H L = none → H' L = some (.lst (bs.map .bl)) → D.nx (σ.set j (some (.ref L))) H') : tAsg (tLst t) (gName j) D σ H := by
  refine h H _ ia ⟨?_, fun L hL => ?_⟩
  · rw [List.length_map]
    exact Nat.le_trans hl (by decide +kernel)
  · exact q L _ (Same.new hL) hL (upd_same ..)
theorem isE0_same {H H' : Hp} {a C : Addr} (h : IsE0 H a C) (s : Same H H') : IsE0 H' a C := by
  rcases h with ⟨y, h⟩ | h
  · exact .inl ⟨y, isE_same h s⟩
  · exact .inr (s _ _ h)
theorem more_bls {a : Addr} {x : Str} {σ : St} {H : Hp} {t : TA} {bs cs : List Bool} {j : Nat} {L0 : Addr} {D : Ends} (h : CkE K a x σ t cs) (ia : IsE0 H a (adr K x)) (hl : bs.length + cs.length ≤ 40) (hv : σ[j]? = some (some (.ref L0))) (h0 : H L0 = some (.lst (bs.map .bl)))
    (q : ∀ (L : Addr) H', Same H H' → H L = none → H' L = some (.lst ((bs ++ cs).map .bl)) → D.nx (σ.set j (some (.ref L))) H') : tAsg (tOp dAdd (tVar j) (tLst t)) (gName j) D σ H := by
  have l40 : (40 : Nat) ≤ sizeLine := by decide +kernel
  refine ⟨_, hv, h H _ ia ⟨?_, fun L hL => ?_⟩⟩
  · rw [List.length_map]
    omega
  · have s2 : Same H (upd H L (.lst (cs.map .bl))) := Same.new hL
    show dAdd _ _ _ _
    simp only [dAdd, s2 _ _ h0, upd_same]
    refine ⟨?_, fun L2 hL2 => ?_⟩
    · rw [List.length_map, List.length_map]
      omega
    · refine q L2 _ (s2.trans (Same.new hL2)) (s2.free hL2) ?_
      rw [upd_same, List.map_append]
/-- the places of the classes of which an error of the class x is one -/
def codesL (x : Str) : List Nat := (List.range 33).filter fun j => isC x (names33.getD j "")
def upto (x : Str) (i : Nat) : List Nat := (List.range i).filter fun j => isC x (names33.getD j "")
def spCode (K : PySem.W.Frag) : Sp := fun vs H Q _ => match vs with
  | [.ref a] => ∃ x ∈ names34, IsE0 H a (adr K x) ∧ ∀ (L : Addr) H', Same H H' → H L = none → H' L = some (.lst ((codesL x).map fun (j : Nat) => .int j)) → Q (.ref L) H'
  | _ => False
theorem names33_at (x : Str) : ∀ i : Nat, i < 33 → ((names33.map (isC x)).map V.bl)[i]? = some (.bl (isC x (names33.getD i ""))) := by
  intro i hi
  have hl : names33.length = 33 := by decide +kernel
  rw [List.getElem?_map, List.getElem?_map, List.getD_eq_getElem?_getD, List.getElem?_eq_getElem (by omega)]
  rfl
theorem upto_succ (x : Str) (i : Nat) : upto x (i + 1) = if isC x (names33.getD i "") = true then upto x i ++ [i] else upto x i := by
  unfold upto
  rw [List.range_succ, List.filter_append]
  by_cases h : isC x (names33.getD i "") = true
  · rw [if_pos h, List.filter_cons, if_pos h, List.filter_nil]
  · rw [if_neg h, List.filter_cons, if_neg h, List.filter_nil, List.append_nil]
theorem code_end {a LA : Addr} {x : Str} {HA : Hp} {Q : VK} (lA : HA LA = some (.lst ((names33.map (isC x)).map .bl))) (q : ∀ (L : Addr) H', Same HA H' → HA L = none → H' L = some (.lst ((codesL x).map fun (j : Nat) => .int j)) → Q (.ref L) H') (D : Addr) (hD : HA D = none) :
    LcLoop (Itr 0 names33.length) (gName 2) (tB (tOp dIx (tVar 1) (tVar 2))) (tVar 2) [2] [some (V.ref a), some (V.ref LA), none] HA D fun H => Q (V.ref D) H := by
  have hl : names33.length = 33 := by decide +kernel
  rw [hl]
  refine lcl_rng (fun i H' => H' D = some (.lst ((upto x i).map fun (j : Nat) => .int j)) ∧ Same HA H') ⟨upd_same .., Same.new hD⟩ ?_ ?_
  · rintro i H' hi ⟨h1, h2⟩
    have lV := vw_lst (h2 _ _ lA)
    have e1 : atI ((names33.map (isC x)).map V.bl) (i : Int) = some (.bl (isC x (names33.getD i ""))) := by
      rw [atI_nat (by omega) (by rw [List.length_map, List.length_map, hl]; omega)]
      exact names33_at x i hi
    simp only [gName, tB, tOp, tVar, wipe, dIx]
    refine ⟨rfl, _, rfl, _, rfl, ?_⟩
    simp only [lV]
    refine ⟨i, _, by simp, e1, _, rfl, ?_⟩
    have hu := upto_succ x i
    split
    · rename_i hc
      rw [if_pos hc] at hu
      refine ⟨_, rfl, _, h1, ?_, ?_, ?_⟩
      · rw [List.length_map]
        unfold upto
        have := List.length_filter_le (fun j => isC x (names33.getD j "")) (List.range i)
        rw [List.length_range] at this
        have : (40 : Nat) ≤ sizeLine := by decide +kernel
        omega
      · rw [upd_same, hu, List.map_append]
        simp
      · intro b o hb
        by_cases z : b = D
        · subst z
          rw [hD] at hb
          cases hb
        · exact (upd_ne z).trans (h2 _ _ hb)
    · rename_i hc
      rw [if_neg hc] at hu
      exact ⟨by rw [hu]; exact h1, h2⟩
  · rintro H' ⟨h1, h2⟩
    exact q D H' h2 hD h1
end K1
end L2
set_option maxHeartbeats 4000000
namespace L2
namespace K1
open PySem PySem.Spec PyProof.Rows Q1
variable {P : Program} {w : World} {K : PySem.W.Frag} {mg : Str → Option Value} {base : Heap} {f : Addr} {fd : FuncData}
theorem sc_law_code : FnScope ["_law_error", "_law_found", "_law_at"] ["_law_error"] (defScope (topS 45)) :=
  ⟨rfl, rfl, rfl, by decide +kernel, rfl, by decide +kernel, by decide +kernel⟩
theorem ok_code (D : DefAt K mg "_law_code" (topS 45) f fd) (T : Blt mg) (CE : Clss K mg) : FnG P w K mg base 2 f fd ["_law_error"] (spCode K) := by
  refine fun_ok D.F sc_law_code (fun vs H Q E h => ?_) (fun cdv A outer s H vs Q E hr hgd h => ?_)
  · unfold spCode at h
    split at h
    · rfl
    · exact h.elim
  · unfold spCode at h
    split at h
    case h_2 => exact h.elim
    rename_i a
    obtain ⟨x, hx, ia, q⟩ := h
    refine ⟨_, (pss_cons (ps_set (i := 1) sc_law_code.nd rfl (Or.inr rfl) (pe_lst (pa_cons (pe_callB call_isErr (by rfl) T.isinstance (by decide +kernel) (pa_cons (pv 0) (pa_cons (pe_glob (v := .ref (adr K "InvalidTable")) (by rfl) (CE.g "InvalidTable" (by decide +kernel)) rfl) pa_nil))) (pa_cons (pe_callB call_isErr (by rfl) T.isinstance (by decide +kernel) (pa_cons (pv 0) (pa_cons (pe_glob (v := .ref (adr K "InvalidKinds")) (by rfl) (CE.g "InvalidKinds" (by decide +kernel)) rfl) pa_nil))) (pa_cons (pe_callB call_isErr (by rfl) T.isinstance (by decide +kernel) (pa_cons (pv 0) (pa_cons (pe_glob (v := .ref (adr K "InvalidKind")) (by rfl) (CE.g "InvalidKind" (by decide +kernel)) rfl) pa_nil))) pa_nil)))))
      (pss_cons (ps_set (i := 1) sc_law_code.nd rfl (Or.inr rfl) (pe_op add_d (pv 1) (pe_lst (pa_cons (pe_callB call_isErr (by rfl) T.isinstance (by decide +kernel) (pa_cons (pv 0) (pa_cons (pe_glob (v := .ref (adr K "InvalidMap")) (by rfl) (CE.g "InvalidMap" (by decide +kernel)) rfl) pa_nil))) (pa_cons (pe_callB call_isErr (by rfl) T.isinstance (by decide +kernel) (pa_cons (pv 0) (pa_cons (pe_glob (v := .ref (adr K "InvalidTriples")) (by rfl) (CE.g "InvalidTriples" (by decide +kernel)) rfl) pa_nil))) pa_nil)))))
      (pss_cons (ps_set (i := 1) sc_law_code.nd rfl (Or.inr rfl) (pe_op add_d (pv 1) (pe_lst (pa_cons (pe_callB call_isErr (by rfl) T.isinstance (by decide +kernel) (pa_cons (pv 0) (pa_cons (pe_glob (v := .ref (adr K "InvalidRule")) (by rfl) (CE.g "InvalidRule" (by decide +kernel)) rfl) pa_nil))) (pa_cons (pe_callB call_isErr (by rfl) T.isinstance (by decide +kernel) (pa_cons (pv 0) (pa_cons (pe_glob (v := .ref (adr K "InvalidThings")) (by rfl) (CE.g "InvalidThings" (by decide +kernel)) rfl) pa_nil))) pa_nil)))))
      (pss_cons (ps_set (i := 1) sc_law_code.nd rfl (Or.inr rfl) (pe_op add_d (pv 1) (pe_lst (pa_cons (pe_callB call_isErr (by rfl) T.isinstance (by decide +kernel) (pa_cons (pv 0) (pa_cons (pe_glob (v := .ref (adr K "InvalidBook")) (by rfl) (CE.g "InvalidBook" (by decide +kernel)) rfl) pa_nil))) (pa_cons (pe_callB call_isErr (by rfl) T.isinstance (by decide +kernel) (pa_cons (pv 0) (pa_cons (pe_glob (v := .ref (adr K "InvalidTerm")) (by rfl) (CE.g "InvalidTerm" (by decide +kernel)) rfl) pa_nil))) pa_nil)))))
      (pss_cons (ps_set (i := 1) sc_law_code.nd rfl (Or.inr rfl) (pe_op add_d (pv 1) (pe_lst (pa_cons (pe_callB call_isErr (by rfl) T.isinstance (by decide +kernel) (pa_cons (pv 0) (pa_cons (pe_glob (v := .ref (adr K "InvalidTerms")) (by rfl) (CE.g "InvalidTerms" (by decide +kernel)) rfl) pa_nil))) (pa_cons (pe_callB call_isErr (by rfl) T.isinstance (by decide +kernel) (pa_cons (pv 0) (pa_cons (pe_glob (v := .ref (adr K "InvalidWord")) (by rfl) (CE.g "InvalidWord" (by decide +kernel)) rfl) pa_nil))) pa_nil)))))
      (pss_cons (ps_set (i := 1) sc_law_code.nd rfl (Or.inr rfl) (pe_op add_d (pv 1) (pe_lst (pa_cons (pe_callB call_isErr (by rfl) T.isinstance (by decide +kernel) (pa_cons (pv 0) (pa_cons (pe_glob (v := .ref (adr K "InvalidCount")) (by rfl) (CE.g "InvalidCount" (by decide +kernel)) rfl) pa_nil))) (pa_cons (pe_callB call_isErr (by rfl) T.isinstance (by decide +kernel) (pa_cons (pv 0) (pa_cons (pe_glob (v := .ref (adr K "InvalidPrices")) (by rfl) (CE.g "InvalidPrices" (by decide +kernel)) rfl) pa_nil))) pa_nil)))))
      (pss_cons (ps_set (i := 1) sc_law_code.nd rfl (Or.inr rfl) (pe_op add_d (pv 1) (pe_lst (pa_cons (pe_callB call_isErr (by rfl) T.isinstance (by decide +kernel) (pa_cons (pv 0) (pa_cons (pe_glob (v := .ref (adr K "InvalidHolding")) (by rfl) (CE.g "InvalidHolding" (by decide +kernel)) rfl) pa_nil))) (pa_cons (pe_callB call_isErr (by rfl) T.isinstance (by decide +kernel) (pa_cons (pv 0) (pa_cons (pe_glob (v := .ref (adr K "InvalidWorld")) (by rfl) (CE.g "InvalidWorld" (by decide +kernel)) rfl) pa_nil))) pa_nil)))))
      (pss_cons (ps_set (i := 1) sc_law_code.nd rfl (Or.inr rfl) (pe_op add_d (pv 1) (pe_lst (pa_cons (pe_callB call_isErr (by rfl) T.isinstance (by decide +kernel) (pa_cons (pv 0) (pa_cons (pe_glob (v := .ref (adr K "InvalidInputs")) (by rfl) (CE.g "InvalidInputs" (by decide +kernel)) rfl) pa_nil))) (pa_cons (pe_callB call_isErr (by rfl) T.isinstance (by decide +kernel) (pa_cons (pv 0) (pa_cons (pe_glob (v := .ref (adr K "InvalidLines")) (by rfl) (CE.g "InvalidLines" (by decide +kernel)) rfl) pa_nil))) pa_nil)))))
      (pss_cons (ps_set (i := 1) sc_law_code.nd rfl (Or.inr rfl) (pe_op add_d (pv 1) (pe_lst (pa_cons (pe_callB call_isErr (by rfl) T.isinstance (by decide +kernel) (pa_cons (pv 0) (pa_cons (pe_glob (v := .ref (adr K "InvalidProgram")) (by rfl) (CE.g "InvalidProgram" (by decide +kernel)) rfl) pa_nil))) (pa_cons (pe_callB call_isErr (by rfl) T.isinstance (by decide +kernel) (pa_cons (pv 0) (pa_cons (pe_glob (v := .ref (adr K "InvalidFolding")) (by rfl) (CE.g "InvalidFolding" (by decide +kernel)) rfl) pa_nil))) pa_nil)))))
      (pss_cons (ps_set (i := 1) sc_law_code.nd rfl (Or.inr rfl) (pe_op add_d (pv 1) (pe_lst (pa_cons (pe_callB call_isErr (by rfl) T.isinstance (by decide +kernel) (pa_cons (pv 0) (pa_cons (pe_glob (v := .ref (adr K "InvalidBench")) (by rfl) (CE.g "InvalidBench" (by decide +kernel)) rfl) pa_nil))) (pa_cons (pe_callB call_isErr (by rfl) T.isinstance (by decide +kernel) (pa_cons (pv 0) (pa_cons (pe_glob (v := .ref (adr K "InvalidSpot")) (by rfl) (CE.g "InvalidSpot" (by decide +kernel)) rfl) pa_nil))) pa_nil)))))
      (pss_cons (ps_set (i := 1) sc_law_code.nd rfl (Or.inr rfl) (pe_op add_d (pv 1) (pe_lst (pa_cons (pe_callB call_isErr (by rfl) T.isinstance (by decide +kernel) (pa_cons (pv 0) (pa_cons (pe_glob (v := .ref (adr K "InvalidScript")) (by rfl) (CE.g "InvalidScript" (by decide +kernel)) rfl) pa_nil))) (pa_cons (pe_callB call_isErr (by rfl) T.isinstance (by decide +kernel) (pa_cons (pv 0) (pa_cons (pe_glob (v := .ref (adr K "InvalidText")) (by rfl) (CE.g "InvalidText" (by decide +kernel)) rfl) pa_nil))) pa_nil)))))
      (pss_cons (ps_set (i := 1) sc_law_code.nd rfl (Or.inr rfl) (pe_op add_d (pv 1) (pe_lst (pa_cons (pe_callB call_isErr (by rfl) T.isinstance (by decide +kernel) (pa_cons (pv 0) (pa_cons (pe_glob (v := .ref (adr K "InvalidRecord")) (by rfl) (CE.g "InvalidRecord" (by decide +kernel)) rfl) pa_nil))) (pa_cons (pe_callB call_isErr (by rfl) T.isinstance (by decide +kernel) (pa_cons (pv 0) (pa_cons (pe_glob (v := .ref (adr K "Unlike")) (by rfl) (CE.g "Unlike" (by decide +kernel)) rfl) pa_nil))) (pa_cons (pe_callB call_isErr (by rfl) T.isinstance (by decide +kernel) (pa_cons (pv 0) (pa_cons (pe_glob (v := .ref (adr K "Unsettled")) (by rfl) (CE.g "Unsettled" (by decide +kernel)) rfl) pa_nil))) pa_nil))))))
      (pss_cons (ps_set (i := 1) sc_law_code.nd rfl (Or.inr rfl) (pe_op add_d (pv 1) (pe_lst (pa_cons (pe_callB call_isErr (by rfl) T.isinstance (by decide +kernel) (pa_cons (pv 0) (pa_cons (pe_glob (v := .ref (adr K "Apart")) (by rfl) (CE.g "Apart" (by decide +kernel)) rfl) pa_nil))) (pa_cons (pe_callB call_isErr (by rfl) T.isinstance (by decide +kernel) (pa_cons (pv 0) (pa_cons (pe_glob (v := .ref (adr K "Refused")) (by rfl) (CE.g "Refused" (by decide +kernel)) rfl) pa_nil))) (pa_cons (pe_callB call_isErr (by rfl) T.isinstance (by decide +kernel) (pa_cons (pv 0) (pa_cons (pe_glob (v := .ref (adr K "InvalidGrants")) (by rfl) (CE.g "InvalidGrants" (by decide +kernel)) rfl) pa_nil))) pa_nil))))))
      (pss_cons (ps_set (i := 1) sc_law_code.nd rfl (Or.inr rfl) (pe_op add_d (pv 1) (pe_lst (pa_cons (pe_callB call_isErr (by rfl) T.isinstance (by decide +kernel) (pa_cons (pv 0) (pa_cons (pe_glob (v := .ref (adr K "InvalidPairs")) (by rfl) (CE.g "InvalidPairs" (by decide +kernel)) rfl) pa_nil))) (pa_cons (pe_callB call_isErr (by rfl) T.isinstance (by decide +kernel) (pa_cons (pv 0) (pa_cons (pe_glob (v := .ref (adr K "InvalidAnswers")) (by rfl) (CE.g "InvalidAnswers" (by decide +kernel)) rfl) pa_nil))) pa_nil)))))
      (pss_cons (ps_set (i := 1) sc_law_code.nd rfl (Or.inr rfl) (pe_op add_d (pv 1) (pe_lst (pa_cons (pe_callB call_isErr (by rfl) T.isinstance (by decide +kernel) (pa_cons (pv 0) (pa_cons (pe_glob (v := .ref (adr K "NothingToUndo")) (by rfl) (CE.g "NothingToUndo" (by decide +kernel)) rfl) pa_nil))) (pa_cons (pe_callB call_isErr (by rfl) T.isinstance (by decide +kernel) (pa_cons (pv 0) (pa_cons (pe_glob (v := .ref (adr K "NothingToRedo")) (by rfl) (CE.g "NothingToRedo" (by decide +kernel)) rfl) pa_nil))) pa_nil)))))
      (pss_one (ps_ret (pe_lc (own := [("_law_at", 2)]) (by rfl) sc_law_code.nd (pi_range1 (by rfl) T.range (pa_cons (pe_callB len_d (by rfl) T.len (by decide +kernel) (pa_cons (pv 1) pa_nil)) pa_nil)) (blkOk_by (N := ["_law_error", "_law_found", "_law_at"]) (sc := defScope (topS 45)) (own := [("_law_at", 2)]) (by decide +kernel)) (fun _ _ _ _ _ => (pg_name (i := 2) sc_law_code.nd rfl (Or.inl rfl))) (fun _ _ _ _ _ => (pts_one (pt_val (pe_ix ix_d (pv 1) (pv 2) (fun _ _ => rfl))))) (fun _ _ _ _ _ => (pv 2)))))))))))))))))))), ?_⟩
    refine set_bls (K := K) (x := x) (bs := (["InvalidTable", "InvalidKinds", "InvalidKind"] : List Str).map (isC x)) (by repeat (first | exact ck_nil | refine ck_cons CE hx (by rfl) (by decide +kernel) ?_)) ia (by simp) (fun L1 H1 s1 n1 l1 => ?_)
    have i1 := isE0_same ia s1
    refine more_bls (K := K) (x := x) (cs := (["InvalidMap", "InvalidTriples"] : List Str).map (isC x)) (by repeat (first | exact ck_nil | refine ck_cons CE hx (by rfl) (by decide +kernel) ?_)) i1 (by simp) (by rfl) l1 (fun L2 H2 s2 n2 l2 => ?_)
    have i2 := isE0_same i1 s2
    refine more_bls (K := K) (x := x) (cs := (["InvalidRule", "InvalidThings"] : List Str).map (isC x)) (by repeat (first | exact ck_nil | refine ck_cons CE hx (by rfl) (by decide +kernel) ?_)) i2 (by simp) (by rfl) l2 (fun L3 H3 s3 n3 l3 => ?_)
    have i3 := isE0_same i2 s3
    refine more_bls (K := K) (x := x) (cs := (["InvalidBook", "InvalidTerm"] : List Str).map (isC x)) (by repeat (first | exact ck_nil | refine ck_cons CE hx (by rfl) (by decide +kernel) ?_)) i3 (by simp) (by rfl) l3 (fun L4 H4 s4 n4 l4 => ?_)
    have i4 := isE0_same i3 s4
    refine more_bls (K := K) (x := x) (cs := (["InvalidTerms", "InvalidWord"] : List Str).map (isC x)) (by repeat (first | exact ck_nil | refine ck_cons CE hx (by rfl) (by decide +kernel) ?_)) i4 (by simp) (by rfl) l4 (fun L5 H5 s5 n5 l5 => ?_)
    have i5 := isE0_same i4 s5
    refine more_bls (K := K) (x := x) (cs := (["InvalidCount", "InvalidPrices"] : List Str).map (isC x)) (by repeat (first | exact ck_nil | refine ck_cons CE hx (by rfl) (by decide +kernel) ?_)) i5 (by simp) (by rfl) l5 (fun L6 H6 s6 n6 l6 => ?_)
    have i6 := isE0_same i5 s6
    refine more_bls (K := K) (x := x) (cs := (["InvalidHolding", "InvalidWorld"] : List Str).map (isC x)) (by repeat (first | exact ck_nil | refine ck_cons CE hx (by rfl) (by decide +kernel) ?_)) i6 (by simp) (by rfl) l6 (fun L7 H7 s7 n7 l7 => ?_)
    have i7 := isE0_same i6 s7
    refine more_bls (K := K) (x := x) (cs := (["InvalidInputs", "InvalidLines"] : List Str).map (isC x)) (by repeat (first | exact ck_nil | refine ck_cons CE hx (by rfl) (by decide +kernel) ?_)) i7 (by simp) (by rfl) l7 (fun L8 H8 s8 n8 l8 => ?_)
    have i8 := isE0_same i7 s8
    refine more_bls (K := K) (x := x) (cs := (["InvalidProgram", "InvalidFolding"] : List Str).map (isC x)) (by repeat (first | exact ck_nil | refine ck_cons CE hx (by rfl) (by decide +kernel) ?_)) i8 (by simp) (by rfl) l8 (fun L9 H9 s9 n9 l9 => ?_)
    have i9 := isE0_same i8 s9
    refine more_bls (K := K) (x := x) (cs := (["InvalidBench", "InvalidSpot"] : List Str).map (isC x)) (by repeat (first | exact ck_nil | refine ck_cons CE hx (by rfl) (by decide +kernel) ?_)) i9 (by simp) (by rfl) l9 (fun L10 H10 s10 n10 l10 => ?_)
    have i10 := isE0_same i9 s10
    refine more_bls (K := K) (x := x) (cs := (["InvalidScript", "InvalidText"] : List Str).map (isC x)) (by repeat (first | exact ck_nil | refine ck_cons CE hx (by rfl) (by decide +kernel) ?_)) i10 (by simp) (by rfl) l10 (fun L11 H11 s11 n11 l11 => ?_)
    have i11 := isE0_same i10 s11
    refine more_bls (K := K) (x := x) (cs := (["InvalidRecord", "Unlike", "Unsettled"] : List Str).map (isC x)) (by repeat (first | exact ck_nil | refine ck_cons CE hx (by rfl) (by decide +kernel) ?_)) i11 (by simp) (by rfl) l11 (fun L12 H12 s12 n12 l12 => ?_)
    have i12 := isE0_same i11 s12
    refine more_bls (K := K) (x := x) (cs := (["Apart", "Refused", "InvalidGrants"] : List Str).map (isC x)) (by repeat (first | exact ck_nil | refine ck_cons CE hx (by rfl) (by decide +kernel) ?_)) i12 (by simp) (by rfl) l12 (fun L13 H13 s13 n13 l13 => ?_)
    have i13 := isE0_same i12 s13
    refine more_bls (K := K) (x := x) (cs := (["InvalidPairs", "InvalidAnswers"] : List Str).map (isC x)) (by repeat (first | exact ck_nil | refine ck_cons CE hx (by rfl) (by decide +kernel) ?_)) i13 (by simp) (by rfl) l13 (fun L14 H14 s14 n14 l14 => ?_)
    have i14 := isE0_same i13 s14
    refine more_bls (K := K) (x := x) (cs := (["NothingToUndo", "NothingToRedo"] : List Str).map (isC x)) (by repeat (first | exact ck_nil | refine ck_cons CE hx (by rfl) (by decide +kernel) ?_)) i14 (by simp) (by rfl) l14 (fun L15 H15 s15 n15 l15 => ?_)
    have i15 := isE0_same i14 s15
    have sA := ((((((((((((((s1.trans s2).trans s3).trans s4).trans s5).trans s6).trans s7).trans s8).trans s9).trans s10).trans s11).trans s12).trans s13).trans s14).trans s15)
    have lA : H15 L15 = some (.lst ((names33.map (isC x)).map .bl)) := l15
    generalize H15 = HA, L15 = LA at *
    have lV := vw_lst lA
    simp [tRet, tLc_eq, iRng1, tCons, tNil, tCB, tVar, start, dLen, lV, tB]
    exact ⟨by decide +kernel, fun D hD => code_end lA (fun L H' e n l => q L H' (sA.trans e) (sA.free n) l) D hD⟩
theorem sc_law_is_error : FnScope ["_law_error"] ["_law_error"] (defScope (topS 46)) :=
  ⟨rfl, rfl, rfl, by decide +kernel, rfl, by decide +kernel, by decide +kernel⟩
def spIsErr (K : PySem.W.Frag) : Sp := fun vs H Q _ => match vs with
  | [.ref a] => ∃ x ∈ names34, IsE0 H a (adr K x) ∧ Q (.bl true) H
  | _ => False
theorem ok_is_error (D : DefAt K mg "_law_is_error" (topS 46) f fd) (T : Blt mg) (CE : Clss K mg) : FnG P w K mg base 2 f fd ["_law_error"] (spIsErr K) := by
  refine fun_ok D.F sc_law_is_error (fun vs H Q E h => ?_) (fun cdv A outer s H vs Q E hr hgd h => ?_)
  · unfold spIsErr at h
    split at h
    · rfl
    · exact h.elim
  · unfold spIsErr at h
    split at h
    case h_2 => exact h.elim
    rename_i a
    obtain ⟨x, hx, ia, q⟩ := h
    refine ⟨_, (pss_one (ps_ret (pe_and (pe_callB call_isErr (by rfl) T.isinstance (by decide +kernel) (pa_cons (pv 0) (pa_cons (pe_glob (v := .ref (adr K "SpreadError")) (by rfl) (CE.g "SpreadError" (by decide +kernel)) rfl) pa_nil))) (pe_one (pe_callB call_isErr (by rfl) T.isinstance (by decide +kernel) (pa_cons (pv 0) (pa_cons (pe_bltn (v := .ty "ValueError") (by rfl) T.ValueError (by decide +kernel) rfl) pa_nil))))))), ?_⟩
    have hS : ("SpreadError" : Str) ∈ names34 := by decide +kernel
    have hb : isC x "SpreadError" = true := by simp [isC]
    refine ⟨_, by rfl, a, adr K x, _, _, _, rfl, ia, CE.G x hx, fun u r => r, CE.kit x hx _ hS, true, by rw [hb], ?_⟩
    rw [if_pos rfl]
    exact ⟨_, by rfl, a, adr K x, _, _, _, rfl, ia, CE.G x hx, fun u r => r, CE.kitV x hx, q⟩
end K1
end L2
set_option maxHeartbeats 4000000
namespace L2
namespace K1
open PySem PySem.Spec PyProof.Rows Q1
variable {P : Program} {w : World} {K : PySem.W.Frag} {mg : Str → Option Value} {base : Heap} {f : Addr} {fd : FuncData}
mutual
theorem dq_same {H H' : Hp} (s : Same H H') : ∀ {v : V} {d : PyData}, Dq H v d → Dq H' v d
  | _, _, .non => .non
  | _, _, .bl b => .bl b
  | _, _, .int i => .int i
  | _, _, .str x => .str x
  | _, _, .lst h n q => .lst (s _ _ h) n (dqAll_same s q)
  | _, _, .tup h q => .tup (s _ _ h) (dqAll_same s q)
  | _, _, .dct h q => .dct (s _ _ h) (dqAll_same s q)
theorem dqAll_same {H H' : Hp} (s : Same H H') : ∀ {vs : List V} {ds : List PyData}, DqAll H vs ds → DqAll H' vs ds
  | _, _, .nil => .nil
  | _, _, .cons h t => .cons (dq_same s h) (dqAll_same s t)
end
theorem pe_valK {X : Cx} {K : PySem.W.Frag} {e : Expr} {te : TE} {pos : Pos} (hK : X.K = K) (he : PE X e te) (hb : attributeBase e "value" X.env (eval e X.env) = eval e X.env := by rfl) : PE X (.Attribute e "value" pos) (tVal K te) := by
  subst hK
  exact pe_val he hb
def spRight (K : PySem.W.Frag) : Sp := fun vs H Q _ => match vs with
  | [.ref L, .str z] => ∃ y d as, H L = some (.lst (as.map .ref)) ∧ Errs K H y as names1 ∧ Dq H y d ∧ d.showable = true ∧ d.depth ≤ 40 ∧ d.shown.length ≤ sizeLine ∧ z = d.shown ∧ ∀ H', Same H H' → Q (.bl true) H'
  | _ => False
theorem paired_get {α β : Type} {R : α → β → Prop} : ∀ {xs : List α} {us : List β} {i : Nat} {x : α}, Paired R xs us → xs[i]? = some x → ∃ u, us[i]? = some u ∧ R x u
  | _, _, _, _, .nil, e => by simp at e
  | _, _, 0, _, .cons r _, e => by simp at e; subst e; exact ⟨_, rfl, r⟩
  | _, _, i + 1, x, .cons _ t, e => by
    obtain ⟨u, h1, h2⟩ := paired_get (i := i) (x := x) t (by simpa using e)
    exact ⟨u, by simpa using h1, h2⟩
theorem same_upd {H H' : Hp} {D : Addr} {o : HO} (h : Same H H') (hD : H D = none) : Same H (upd H' D o) := by
  intro b u hb
  by_cases z : b = D
  · subst z
    rw [hD] at hb
    cases hb
  · exact (upd_ne z).trans (h _ _ hb)
/-- at D a list of new lists [0], [1], .. -/
def Rows (H : Hp) (D : Addr) (i : Nat) (H' : Hp) : Prop := ∃ ls : List Addr, ls.length = i ∧ H' D = some (.lst (ls.map .ref)) ∧ (∀ j l, ls[j]? = some l → l ≠ D ∧ H' l = some (.lst [.int (j : Nat)])) ∧ Same H H'
theorem rows_0 {H : Hp} {D : Addr} (h : H D = none) : Rows H D 0 (upd H D (.lst [])) := ⟨[], rfl, upd_same .., by simp, Same.new h⟩
theorem rows_step {H H1 H2 : Hp} {D l : Addr} {i : Nat} (hD : H D = none) (hi : i ≤ 40) (h : Rows H D i H1) (s : Same H1 H2) (hn : H1 l = none) (hl : H2 l = some (.lst [.int (i : Nat)])) :
    ∃ acc, H2 D = some (.lst acc) ∧ acc.length < sizeLine ∧ Rows H D (i + 1) (upd H2 D (.lst (acc ++ [.ref l]))) := by
  obtain ⟨ls, h1, h2, h3, h4⟩ := h
  have l40 : (40 : Nat) < sizeLine := by decide +kernel
  have nD : l ≠ D := by
    rintro rfl
    rw [h2] at hn
    cases hn
  refine ⟨_, s _ _ h2, by rw [List.length_map]; omega, ls ++ [l], by simp [h1], by rw [upd_same]; simp, fun j m hm => ?_, same_upd (h4.trans s) hD⟩
  by_cases hj : j < ls.length
  · rw [List.getElem?_append_left hj] at hm
    obtain ⟨q1, q2⟩ := h3 j m hm
    exact ⟨q1, (upd_ne q1).trans (s _ _ q2)⟩
  · rw [List.getElem?_append_right (by omega)] at hm
    have hj2 : j = ls.length := by
      have := List.getElem?_eq_some_iff.mp hm
      obtain ⟨hh, _⟩ := this
      simp at hh
      omega
    subst hj2
    simp at hm
    subst hm
    rw [h1]
    exact ⟨nD, (upd_ne nD).trans hl⟩
theorem yes_q {σ : St} {H : Hp} {A B : Hp → Prop} (h : A H) : tYes σ H fun b H3 => if b = true then A H3 else B H3 := by
  show (if true = true then A H else B H)
  rw [if_pos rfl]
  exact h
def dRow (i : Nat) : PyData := .list [.int (i : Nat)]
theorem rows_all {H' : Hp} : ∀ (ls : List Addr) (k : Nat), (∀ j l, ls[j]? = some l → H' l = some (.lst [.int ((k + j : Nat) : Int)])) → DpAll K H' (ls.map .ref) ((List.range' k ls.length).map dRow)
  | [], _, _ => .nil
  | a :: r, k, h => by
    refine .cons (.lst (.inl (.inl (h 0 a rfl))) (.cons (.int _) .nil)) ?_
    refine rows_all r (k + 1) fun j l e => ?_
    have := h (j + 1) l e
    rw [this]
    congr 4
    omega
theorem rows_dp {H H' : Hp} {D : Addr} {i : Nat} (h : Rows H D i H') : Dp K H' (.ref D) (.list ((List.range' 0 i).map dRow)) := by
  obtain ⟨ls, h1, h2, h3, h4⟩ := h
  subst h1
  exact .lst (.inl (.inl h2)) (rows_all ls 0 fun j l e => by rw [Nat.zero_add]; exact (h3 j l e).2)
theorem rows_after {H H' H2 : Hp} {D : Addr} {i : Nat} (h : Rows H D i H') (s : Same H' H2) : Rows H D i H2 := by
  obtain ⟨ls, h1, h2, h3, h4⟩ := h
  exact ⟨ls, h1, s _ _ h2, fun j l e => ⟨(h3 j l e).1, s _ _ (h3 j l e).2⟩, h4.trans s⟩
theorem codes1 : ∀ i : Nat, i < 31 → codesL (names1.getD i "") = [i] := by decide +kernel
theorem names1_34 : ∀ x ∈ names1, x ∈ names34 := by decide +kernel
theorem names1_len : names1.length = 31 := by decide +kernel
theorem name_at {i : Nat} {x : Str} (h : names1[i]? = some x) : i < 31 ∧ x ∈ names1 ∧ names1.getD i "" = x := by
  obtain ⟨h1, h2⟩ := List.getElem?_eq_some_iff.mp h
  refine ⟨by rw [names1_len] at h1; exact h1, h2 ▸ List.getElem_mem h1, ?_⟩
  rw [List.getD_eq_getElem?_getD, h]
  rfl
theorem shaped31 : SeqAt.shaped (.list ((List.range' 0 31).map dRow)) = true := by decide +kernel
theorem eqv31 : PyData.eqv (.list ((List.range' 0 31).map dRow)) (.list ((List.range' 0 31).map dRow)) = true := by decide +kernel
/-- the first list of the test -/
theorem right_1 {L : Addr} {as : List Addr} {y z : V} {H : Hp} {s3 : Option V} {Qd : Hp → Prop} (CE : Clss K mg) (hL : H L = some (.lst (as.map .ref))) (es : Errs K H y as names1) {D : Addr} (hD : H D = none) (q : ∀ H', Rows H D 31 H' → Qd H') :
    LcLoop (Itl K L) (gName 2) tYes (tCall (spCode K) [] E0 (tCons (tVar 2) tNil)) [2] [some (V.ref L), some z, none, s3] H D Qd := by
  have hlen : as.length = 31 := by rw [es.length]; exact names1_len
  refine lcl_lst (as.map .ref) (fun i H' => Rows H D i H') (rows_0 hD) (fun i H' _ h => vw_lst (h.choose_spec.2.2.2 _ _ hL)) ?_ ?_
  · intro i x H' hx h
    have hS : Same H H' := h.choose_spec.2.2.2
    rw [List.getElem?_map] at hx
    obtain ⟨a, ha, rfl⟩ := Option.map_eq_some_iff.mp hx
    obtain ⟨nm, hn, ie⟩ := paired_get es ha
    obtain ⟨hi, hm, hg⟩ := name_at hn
    refine ⟨by rfl, ?_⟩
    refine yes_q ?_
    refine ⟨_, by rfl, ?_⟩
    show ∃ x, x ∈ names34 ∧ IsE0 H' a (adr K x) ∧ _
    refine ⟨nm, names1_34 _ hm, .inl ⟨y, isE_same ie hS⟩, fun l H2 e f r => ?_⟩
    rw [← hg, codes1 i hi] at r
    exact rows_step hD (by omega) h e f r
  · intro H' h
    rw [List.length_map, hlen] at h
    exact q H' h
theorem right_2 {L : Addr} {z : V} {H : Hp} {s2 : Option V} {Qd : Hp → Prop} {D : Addr} (hD : H D = none) (q : ∀ H', Rows H D 31 H' → Qd H') :
    LcLoop (Itr 0 31) (gName 3) tYes (tLst (tCons (tVar 3) tNil)) [3] [some (V.ref L), some z, s2, none] H D Qd := by
  refine lcl_rng (fun i H' => Rows H D i H') (rows_0 hD) ?_ fun H' h => q H' h
  intro i H' hi h
  refine ⟨by rfl, ?_⟩
  refine yes_q ?_
  refine ⟨_, by rfl, (by decide +kernel : (1 : Nat) ≤ sizeLine), fun l hl => ?_⟩
  refine rows_step hD (by omega) h (Same.new hl) hl ?_
  rw [upd_same]
  simp
/-- the second list of the test: none is left -/
theorem right_3 {L : Addr} {as : List Addr} {y : V} {d : PyData} {H : Hp} {s3 : Option V} {Qd : Hp → Prop} (CE : Clss K mg) (hL : H L = some (.lst (as.map .ref))) (es : Errs K H y as names1) (hd : Dq H y d) (hsh : d.showable = true) (hdp : d.depth ≤ 40) (hsz : d.shown.length ≤ sizeLine)
    {D : Addr} (hD : H D = none) (q : ∀ H', Same H H' → H' D = some (.lst []) → Qd H') :
    LcLoop (Itl K L) (gName 2) (tOr (tNot (tB (tCall (spIsErr K) [] E0 (tCons (tVar 2) tNil)))) (tTest (tOp rNe (tCB rRepr (tCons (tVal K (tVar 2)) tNil)) (tVar 1)))) (tVar 2) [2] [some (V.ref L), some (V.str d.shown), none, s3] H D Qd := by
  refine lcl_lst (as.map .ref) (fun i H' => Same H H' ∧ H' D = some (.lst [])) ⟨Same.new hD, upd_same ..⟩ (fun i H' _ h => vw_lst (h.1 _ _ hL)) ?_ fun H' h => q H' h.1 h.2
  rintro i x H' hx ⟨hS, hD'⟩
  rw [List.getElem?_map] at hx
  obtain ⟨a, ha, rfl⟩ := Option.map_eq_some_iff.mp hx
  obtain ⟨nm, hn, ie⟩ := paired_get es ha
  obtain ⟨hi, hm, hg⟩ := name_at hn
  have ie2 := isE_same ie hS
  refine ⟨by rfl, _, by rfl, ?_⟩
  show ∃ x, x ∈ names34 ∧ IsE0 H' a (adr K x) ∧ _
  refine ⟨nm, names1_34 _ hm, .inl ⟨y, ie2⟩, true, rfl, ?_⟩
  simp only [Bool.not_true, Bool.false_eq_true, if_false]
  refine ⟨_, by rfl, a, _, y, rfl, ie2, CE.G _ (names1_34 _ hm), CE.val _ hm, y, d, rfl, dq_same hS hd, hsh, hdp, hsz, _, by rfl, rfl, ?_⟩
  simp
  exact ⟨hS, hD'⟩
theorem sc_law_right : FnScope ["_law_some", "_law_noted", "_law_error", "_law_at"] ["_law_some", "_law_noted"] (defScope (topS 47)) :=
  ⟨rfl, rfl, rfl, by decide +kernel, rfl, by decide +kernel, by decide +kernel⟩
theorem ok_right {fC fI : Addr} {fdC fdI : FuncData} (D : DefAt K mg "_law_right" (topS 47) f fd) (T : Blt mg) (CE : Clss K mg) (C_law_code : Cal P w K mg base 2 "_law_code" fC fdC ["_law_error"] (spCode K)) (C_law_is_error : Cal P w K mg base 2 "_law_is_error" fI fdI ["_law_error"] (spIsErr K)) :
    FnG P w K mg base 3 f fd ["_law_some", "_law_noted"] (spRight K) := by
  refine fun_ok D.F sc_law_right (fun vs H Q E h => ?_) (fun cdv A outer s H vs Q E hr hgd h => ?_)
  · unfold spRight at h
    split at h
    · rfl
    · exact h.elim
  · unfold spRight at h
    split at h
    case h_2 => exact h.elim
    rename_i L z
    obtain ⟨y, d, as, hL, es, hd, hsh, hdp, hsz, rfl, q⟩ := h
    refine ⟨_, (pss_cons (ps_if (pt_cmpR (op_neD hr.units) (pe_lc (own := [("_law_error", 2)]) (by rfl) sc_law_right.nd (pi_any (pv 0)) (blkOk_by (N := ["_law_some", "_law_noted", "_law_error", "_law_at"]) (sc := defScope (topS 47)) (own := [("_law_error", 2)]) (by decide +kernel)) (fun _ _ _ _ _ => (pg_name (i := 2) sc_law_right.nd rfl (Or.inl rfl))) (fun _ _ _ _ _ => pts_nil) (fun _ _ _ _ _ => (pe_callC C_law_code hr hgd (by rfl) (pa_cons (pv 2) pa_nil)))) (pe_lc (own := [("_law_at", 3)]) (by rfl) sc_law_right.nd (pi_range1 (by rfl) T.range (pa_cons pe_int pa_nil)) (blkOk_by (N := ["_law_some", "_law_noted", "_law_error", "_law_at"]) (sc := defScope (topS 47)) (own := [("_law_at", 3)]) (by decide +kernel)) (fun _ _ _ _ _ => (pg_name (i := 3) sc_law_right.nd rfl (Or.inl rfl))) (fun _ _ _ _ _ => pts_nil) (fun _ _ _ _ _ => (pe_lst (pa_cons (pv 3) pa_nil)))) (nomark _)) (pss_one (ps_ret pe_bl)) pss_nil)
      (pss_one (ps_ret (pe_cmpR (op_eqD hr.units) (pe_lc (own := [("_law_error", 2)]) (by rfl) sc_law_right.nd (pi_any (pv 0)) (blkOk_by (N := ["_law_some", "_law_noted", "_law_error", "_law_at"]) (sc := defScope (topS 47)) (own := [("_law_error", 2)]) (by decide +kernel)) (fun _ _ _ _ _ => (pg_name (i := 2) sc_law_right.nd rfl (Or.inl rfl))) (fun _ _ _ _ _ => (pts_one (PW.pt (pw_or (pt_not (pt_val (pe_callC C_law_is_error hr hgd (by rfl) (pa_cons (pv 2) pa_nil)))) (pw_or1 (pt_cmpR op_ne (pe_callB (call_repr hr hgd) (by rfl) T.repr (by decide +kernel) (pa_cons (pe_valK (K := K) rfl (pv 2)) pa_nil)) (pv 1) (nomark _))))))) (fun _ _ _ _ _ => (pv 2))) (pe_lst pa_nil) (nomark _))))), ?_⟩
    have lV := vw_lst hL
    simp [tSeq, tIfS, tTest, tOp, tRet, tLc_eq, iRng1, tCons, tNil, tCB, tVar, start, dLen, lV, tB, iAny, dIter, tC, rNeD]
    intro D1 hD1
    refine right_1 CE hL es hD1 fun H1 r1 => fun D2 hD2 => ?_
    refine right_2 hD2 fun H2 r2 => ?_
    have s1 : Same H H1 := r1.choose_spec.2.2.2
    have s2 : Same H1 H2 := r2.choose_spec.2.2.2
    have s12 := s1.trans s2
    refine ⟨_, rows_dp (rows_after r1 s2), _, rows_dp r2, shaped31, shaped31, .inl ⟨eqv31, ?_⟩⟩
    have lV2 := vw_lst (s12 _ _ hL)
    simp [tNext, tSeq, tIfS, tTest, tOp, tRet, tLc_eq, iRng1, tCons, tNil, tCB, tVar, start, dLen, lV2, tB, iAny, dIter, tC, rEqD, tLst]
    intro D3 hD3
    refine right_3 CE (s12 _ _ hL) (errs_same s12 es) (dq_same s12 hd) hsh hdp hsz hD3 fun H3 s3 h3 => ?_
    intro D4 hD4
    refine ⟨_, .lst (.inl (.inl ((Same.new hD4) _ _ h3))) .nil, _, .lst (.inl (.inl (upd_same ..))) .nil, by decide +kernel, by decide +kernel, ?_⟩
    have : PyData.eqv (.list []) (.list []) = true := by decide +kernel
    rw [this]
    exact q _ ((s12.trans s3).trans (Same.new hD4))
end K1
end L2
set_option maxHeartbeats 4000000
namespace L2
namespace K1
open PySem PySem.Spec PyProof.Rows Q1 TL
variable {P : Program} {w : World} {K : PySem.W.Frag} {mg : Str → Option Value} {base : Heap} {f : Addr} {fd : FuncData}
/-! ### the things that errors are given -/
inductive Thg (H : Hp) (z : Str) : V → Prop
  | non : Thg H z .non
  | bl (b : Bool) : Thg H z (.bl b)
  | int (i : Int) : i.natAbs < 2 ^ 40 → Thg H z (.int i)
  | str : Thg H z (.str z)
  | t1 (a : Addr) : H a = some (.tup [.str "says", .str z, .int 1, .int 2]) → Thg H z (.ref a)
  | t2 (a b : Addr) : H a = some (.tup [.str z, .ref b]) → H b = some (.lst [.str z]) → b ≠ sysModules → Thg H z (.ref a)
  | d3 (a b : Addr) : H a = some (.dK [(.inr z, .ref b)]) → H b = some (.lst [.str z]) → b ≠ sysModules → Thg H z (.ref a)
  | l4 (a : Addr) : H a = some (.lst [.str z]) → a ≠ sysModules → Thg H z (.ref a)
  | l5 (a b c : Addr) : H a = some (.lst [.ref b, .ref c]) → a ≠ sysModules → H b = some (.lst [.str z]) → b ≠ sysModules → H c = some (.dK [(.inr "odd", .str z)]) → Thg H z (.ref a)
theorem thg_same {H H' : Hp} {z : Str} {v : V} (h : Thg H z v) (s : Same H H') : Thg H' z v := by
  cases h with
  | non => exact .non
  | bl b => exact .bl b
  | int i hi => exact .int i hi
  | str => exact .str
  | t1 a h => exact .t1 a (s _ _ h)
  | t2 a b h1 h2 n => exact .t2 a b (s _ _ h1) (s _ _ h2) n
  | d3 a b h1 h2 n => exact .d3 a b (s _ _ h1) (s _ _ h2) n
  | l4 a h n => exact .l4 a (s _ _ h) n
  | l5 a b c h1 n1 h2 n2 h3 => exact .l5 a b c (s _ _ h1) n1 (s _ _ h2) n2 (s _ _ h3)
/-- data under repr -/
def Dsh (H : Hp) (v : V) (d : PyData) : Prop := Dq H v d ∧ Shows d
theorem word_ok {z : Str} (h : IsWord 8 z) : okS z := fun c hc => by
  have := (h.2.2 c hc).2
  omega
theorem word_len {z : Str} (h : IsWord 8 z) : z.length ≤ 8 := h.2.1
theorem ok_later : okS "later" := by
  unfold okS
  decide +kernel
theorem ok_says : okS "says" := by
  unfold okS
  decide +kernel
theorem ok_odd : okS "odd" := by
  unfold okS
  decide +kernel
theorem ok_LATER : okS "LATER" := by
  unfold okS
  decide +kernel
theorem len_later : ("later" : Str).length = 5 := by decide +kernel
theorem len_says : ("says" : Str).length = 4 := by decide +kernel
theorem len_odd : ("odd" : Str).length = 3 := by decide +kernel
theorem len_LATER : ("LATER" : Str).length = 5 := by decide +kernel
theorem len_i1 : (PyData.shown (.int 1)).length = 1 := by decide +kernel
theorem len_i2 : (PyData.shown (.int 2)).length = 1 := by decide +kernel
theorem sz_eq : sizeLine = 16777216 := by decide +kernel
theorem log1 : Nat.log2 1 < 1920 := by decide +kernel
theorem log2 : Nat.log2 2 < 1920 := by decide +kernel
theorem sh_non {z : Str} (hz : IsWord 8 z) : Shows .none := by
  refine shows_of ?_ ?_ ?_ ?_
  · simp [PyData.showable, PyData.showableAll, PyData.showableKv, log1, log2]
  · simp [PyData.depth, PyData.depthAll, PyData.depthKv]
  · simp [okD, okDA, okDK, word_ok hz, ok_later, ok_says, ok_odd, ok_LATER]
  · have := word_len hz
    simp [sLen, sLenA, sLenK, len_later, len_says, len_odd, len_LATER, len_i1, len_i2, sz_eq]
    try omega
theorem sh_blT {z : Str} (hz : IsWord 8 z) : Shows (.bool true) := by
  refine shows_of ?_ ?_ ?_ ?_
  · simp [PyData.showable, PyData.showableAll, PyData.showableKv, log1, log2]
  · simp [PyData.depth, PyData.depthAll, PyData.depthKv]
  · simp [okD, okDA, okDK, word_ok hz, ok_later, ok_says, ok_odd, ok_LATER]
  · have := word_len hz
    simp [sLen, sLenA, sLenK, len_later, len_says, len_odd, len_LATER, len_i1, len_i2, sz_eq]
    try omega
theorem sh_blF {z : Str} (hz : IsWord 8 z) : Shows (.bool false) := by
  refine shows_of ?_ ?_ ?_ ?_
  · simp [PyData.showable, PyData.showableAll, PyData.showableKv, log1, log2]
  · simp [PyData.depth, PyData.depthAll, PyData.depthKv]
  · simp [okD, okDA, okDK, word_ok hz, ok_later, ok_says, ok_odd, ok_LATER]
  · have := word_len hz
    simp [sLen, sLenA, sLenK, len_later, len_says, len_odd, len_LATER, len_i1, len_i2, sz_eq]
    try omega
theorem sh_str {z : Str} (hz : IsWord 8 z) : Shows (.str z) := by
  refine shows_of ?_ ?_ ?_ ?_
  · simp [PyData.showable, PyData.showableAll, PyData.showableKv, log1, log2]
  · simp [PyData.depth, PyData.depthAll, PyData.depthKv]
  · simp [okD, okDA, okDK, word_ok hz, ok_later, ok_says, ok_odd, ok_LATER]
  · have := word_len hz
    simp [sLen, sLenA, sLenK, len_later, len_says, len_odd, len_LATER, len_i1, len_i2, sz_eq]
    try omega
theorem sh_t1 {z : Str} (hz : IsWord 8 z) : Shows (.tuple [.str "says", .str z, .int 1, .int 2]) := by
  refine shows_of ?_ ?_ ?_ ?_
  · simp [PyData.showable, PyData.showableAll, PyData.showableKv, log1, log2]
  · simp [PyData.depth, PyData.depthAll, PyData.depthKv]
  · simp [okD, okDA, okDK, word_ok hz, ok_later, ok_says, ok_odd, ok_LATER]
  · have := word_len hz
    simp [sLen, sLenA, sLenK, len_later, len_says, len_odd, len_LATER, len_i1, len_i2, sz_eq]
    try omega
theorem sh_t2 {z : Str} (hz : IsWord 8 z) : Shows (.tuple [.str z, .list [.str z]]) := by
  refine shows_of ?_ ?_ ?_ ?_
  · simp [PyData.showable, PyData.showableAll, PyData.showableKv, log1, log2]
  · simp [PyData.depth, PyData.depthAll, PyData.depthKv]
  · simp [okD, okDA, okDK, word_ok hz, ok_later, ok_says, ok_odd, ok_LATER]
  · have := word_len hz
    simp [sLen, sLenA, sLenK, len_later, len_says, len_odd, len_LATER, len_i1, len_i2, sz_eq]
    try omega
theorem sh_t2m {z : Str} (hz : IsWord 8 z) : Shows (.tuple [.str z, .list [.str z, .str "later"]]) := by
  refine shows_of ?_ ?_ ?_ ?_
  · simp [PyData.showable, PyData.showableAll, PyData.showableKv, log1, log2]
  · simp [PyData.depth, PyData.depthAll, PyData.depthKv]
  · simp [okD, okDA, okDK, word_ok hz, ok_later, ok_says, ok_odd, ok_LATER]
  · have := word_len hz
    simp [sLen, sLenA, sLenK, len_later, len_says, len_odd, len_LATER, len_i1, len_i2, sz_eq]
    try omega
theorem sh_d3 {z : Str} (hz : IsWord 8 z) : Shows (.dict [(.str z, .list [.str z])]) := by
  refine shows_of ?_ ?_ ?_ ?_
  · simp [PyData.showable, PyData.showableAll, PyData.showableKv, log1, log2]
  · simp [PyData.depth, PyData.depthAll, PyData.depthKv]
  · simp [okD, okDA, okDK, word_ok hz, ok_later, ok_says, ok_odd, ok_LATER]
  · have := word_len hz
    simp [sLen, sLenA, sLenK, len_later, len_says, len_odd, len_LATER, len_i1, len_i2, sz_eq]
    try omega
theorem sh_d3m {z : Str} (hz : IsWord 8 z) : Shows (.dict [(.str z, .list [.str z, .str "later"]), (.str "LATER", .int 1)]) := by
  refine shows_of ?_ ?_ ?_ ?_
  · simp [PyData.showable, PyData.showableAll, PyData.showableKv, log1, log2]
  · simp [PyData.depth, PyData.depthAll, PyData.depthKv]
  · simp [okD, okDA, okDK, word_ok hz, ok_later, ok_says, ok_odd, ok_LATER]
  · have := word_len hz
    simp [sLen, sLenA, sLenK, len_later, len_says, len_odd, len_LATER, len_i1, len_i2, sz_eq]
    try omega
theorem sh_l4 {z : Str} (hz : IsWord 8 z) : Shows (.list [.str z]) := by
  refine shows_of ?_ ?_ ?_ ?_
  · simp [PyData.showable, PyData.showableAll, PyData.showableKv, log1, log2]
  · simp [PyData.depth, PyData.depthAll, PyData.depthKv]
  · simp [okD, okDA, okDK, word_ok hz, ok_later, ok_says, ok_odd, ok_LATER]
  · have := word_len hz
    simp [sLen, sLenA, sLenK, len_later, len_says, len_odd, len_LATER, len_i1, len_i2, sz_eq]
    try omega
theorem sh_l4m {z : Str} (hz : IsWord 8 z) : Shows (.list [.str z, .str "later"]) := by
  refine shows_of ?_ ?_ ?_ ?_
  · simp [PyData.showable, PyData.showableAll, PyData.showableKv, log1, log2]
  · simp [PyData.depth, PyData.depthAll, PyData.depthKv]
  · simp [okD, okDA, okDK, word_ok hz, ok_later, ok_says, ok_odd, ok_LATER]
  · have := word_len hz
    simp [sLen, sLenA, sLenK, len_later, len_says, len_odd, len_LATER, len_i1, len_i2, sz_eq]
    try omega
theorem sh_l5 {z : Str} (hz : IsWord 8 z) : Shows (.list [.list [.str z], .dict [(.str "odd", .str z)]]) := by
  refine shows_of ?_ ?_ ?_ ?_
  · simp [PyData.showable, PyData.showableAll, PyData.showableKv, log1, log2]
  · simp [PyData.depth, PyData.depthAll, PyData.depthKv]
  · simp [okD, okDA, okDK, word_ok hz, ok_later, ok_says, ok_odd, ok_LATER]
  · have := word_len hz
    simp [sLen, sLenA, sLenK, len_later, len_says, len_odd, len_LATER, len_i1, len_i2, sz_eq]
    try omega
theorem sh_l5m {z : Str} (hz : IsWord 8 z) : Shows (.list [.list [.str z], .dict [(.str "odd", .str z)], .str "later"]) := by
  refine shows_of ?_ ?_ ?_ ?_
  · simp [PyData.showable, PyData.showableAll, PyData.showableKv, log1, log2]
  · simp [PyData.depth, PyData.depthAll, PyData.depthKv]
  · simp [okD, okDA, okDK, word_ok hz, ok_later, ok_says, ok_odd, ok_LATER]
  · have := word_len hz
    simp [sLen, sLenA, sLenK, len_later, len_says, len_odd, len_LATER, len_i1, len_i2, sz_eq]
    try omega
theorem sh_lt {z : Str} (hz : IsWord 8 z) : Shows (.tuple [.str "later", .str z]) := by
  refine shows_of ?_ ?_ ?_ ?_
  · simp [PyData.showable, PyData.showableAll, PyData.showableKv, log1, log2]
  · simp [PyData.depth, PyData.depthAll, PyData.depthKv]
  · simp [okD, okDA, okDK, word_ok hz, ok_later, ok_says, ok_odd, ok_LATER]
  · have := word_len hz
    simp [sLen, sLenA, sLenK, len_later, len_says, len_odd, len_LATER, len_i1, len_i2, sz_eq]
    try omega
theorem shows_int {i : Int} (h : i.natAbs < 2 ^ 40) : Shows (.int i) := by
  have h1 : i.natAbs.log2 < 1920 := by
    by_cases z : i.natAbs = 0
    · rw [z]
      decide +kernel
    · exact Nat.lt_of_lt_of_le ((Nat.log2_lt z).mpr h) (by decide)
  refine ⟨?_, ?_, ?_⟩
  · simp [PyData.showable, h1]
  · simp [PyData.depth]
  · rw [PyData.shown]
    exact int_text_fits h1
theorem thg_shows {H : Hp} {z : Str} {v : V} (hz : IsWord 8 z) (h : Thg H z v) : ∃ d, Dsh H v d := by
  cases h with
  | non => exact ⟨_, .non, sh_non hz⟩
  | bl b => exact ⟨_, .bl b, by cases b; exact sh_blF hz; exact sh_blT hz⟩
  | int i hi => exact ⟨_, .int i, shows_int hi⟩
  | str => exact ⟨_, .str z, sh_str hz⟩
  | t1 a h => exact ⟨_, .tup h (.cons (.str _) (.cons (.str _) (.cons (.int _) (.cons (.int _) .nil)))), sh_t1 hz⟩
  | t2 a b h1 h2 n => exact ⟨_, .tup h1 (.cons (.str _) (.cons (.lst h2 n (.cons (.str _) .nil)) .nil)), sh_t2 hz⟩
  | d3 a b h1 h2 n => exact ⟨_, .dct h1 (.cons (.lst h2 n (.cons (.str _) .nil)) .nil), sh_d3 hz⟩
  | l4 a h n => exact ⟨_, .lst h n (.cons (.str _) .nil), sh_l4 hz⟩
  | l5 a b c h1 n1 h2 n2 h3 => exact ⟨_, .lst h1 n1 (.cons (.lst h2 n2 (.cons (.str _) .nil)) (.cons (.dct h3 (.cons (.str _) .nil)) .nil)), sh_l5 hz⟩
/-- what is changed are small lists of texts and dicts, no rows of errors -/
def Mut (H H' : Hp) : Prop := ∀ b o, H b = some o → (∀ xs, o = .lst xs → xs.length = 31 ∨ ∃ p, xs = [.ref p]) → (∀ kvs, o ≠ .dK kvs) → H' b = some o
theorem Mut.rfl' {H : Hp} : Mut H H := fun _ _ h _ _ => h
theorem Mut.trans {H H1 H2 : Hp} (x : Mut H H1) (y : Mut H1 H2) : Mut H H2 := fun b o h p q => y b o (x b o h p q) p q
theorem mut_lst {H : Hp} {b : Addr} {xs : List V} {o : HO} (h : H b = some (.lst xs)) (n : xs.length ≠ 31) (m : ∀ p, xs ≠ [.ref p]) : Mut H (upd H b o) := fun c u e p q => by
  by_cases z : c = b
  · subst z
    rw [h] at e
    cases e
    rcases p _ rfl with p | ⟨r, p⟩
    · exact absurd p n
    · exact absurd p (m r)
  · exact (upd_ne z).trans e
theorem mut_dK {H : Hp} {b : Addr} {kvs : List (Key × V)} {o : HO} (h : H b = some (.dK kvs)) : Mut H (upd H b o) := fun c u e p q => by
  by_cases z : c = b
  · subst z
    rw [h] at e
    cases e
    exact absurd rfl (q _)
  · exact (upd_ne z).trans e
theorem isE_mut {H H' : Hp} {a C : Addr} {y : V} (h : IsE H a C y) (s : Mut H H') : IsE H' a C y := by
  obtain ⟨d, h1, h2⟩ := h
  exact ⟨d, s _ _ h1 (fun _ z => by cases z) (fun _ z => by cases z), s _ _ h2 (fun _ z => by cases z) (fun _ z => by cases z)⟩
theorem errs_mut {H H' : Hp} {y : V} (s : Mut H H') : ∀ {as : List Addr} {xs : List Str}, Errs K H y as xs → Errs K H' y as xs
  | _, _, .nil => .nil
  | _, _, .cons h t => .cons (isE_mut h s) (errs_mut s t)
end K1
end L2
set_option maxHeartbeats 4000000
namespace L2
namespace K1
open PySem PySem.Spec PyProof.Rows Q1 TL
variable {P : Program} {w : World} {K : PySem.W.Frag} {mg : Str → Option Value} {base : Heap} {f : Addr} {fd : FuncData}
theorem sclaw : FnScope ["_law_script", "_law_purse_here", "_law_word_here", "_law_plain", "_law_thing", "_law_noted", "_law_some", "_law_called_here", "_law_later", "_law_rest", "_law_error"] ["_law_script"] (defScope (topS 48)) :=
  ⟨rfl, rfl, rfl, by decide +kernel, rfl, by decide +kernel, by decide +kernel⟩
def forB : List Stmt → List Stmt
  | .For _ _ b _ _ :: _ => b
  | _ => []
/-- the loop's body -/
def bodyL : List Stmt := forB (defBody (topS 48))
/-- the context of the law's body -/
abbrev lawX (P : Program) (w : World) (K : PySem.W.Frag) (mg : Str → Option Value) (base : Heap) (f : Addr) (cdv : Value) (A : Around) (outer : List Env) (s : Shared) (H : Hp) (E : XK) : Cx :=
  (cxOf (L2.CX P w) P w K mg base ["_law_script", "_law_purse_here", "_law_word_here", "_law_plain", "_law_thing", "_law_noted", "_law_some", "_law_called_here", "_law_later", "_law_rest", "_law_error"] "law" (defScope (topS 48)) f cdv A outer s H E).nox
/-- an outcome of the tests -/
theorem shows_ok {d : PyData} (h : Shows d) : d.showable = true ∧ d.depth ≤ 40 ∧ d.shown.length ≤ sizeLine := h
variable {cdv : Value} {A : Around} {outer : List Env} {s : Shared} {H0 : Hp} {E : XK}
theorem part10 {fR : Addr} {fdR : FuncData} (hr : Room 3 (A.deeper (envOfC "law" (defScope (topS 48)) s.heap.objs.size f cdv))) (hgd : A.guards = some []) (T : Blt mg) (C_law_right : Cal P w K mg base 3 "_law_right" fR fdR ["_law_some", "_law_noted"] (spRight K)) :
    ∃ t, PSs (lawX P w K mg base f cdv A outer s H0 E) (bodyL.drop 10) t ∧ ∀ (D : Ends) (H : Hp) (s0 s1 s2 s3 v s5 s8 s9 s10 : Option V) (y : V) (d : PyData) (L6 L7 : Addr) (as6 as7 : List Addr), v = some y → Dsh H y d →
      H L6 = some (.lst (as6.map .ref)) → Errs K H y as6 names1 → H L7 = some (.lst (as7.map .ref)) → Errs K H y as7 names1 →
      (∀ H', Same H H' → D.nx [s0, s1, s2, s3, v, s5, some (.ref L6), some (.ref L7), s8, s9, s10] H') → t D [s0, s1, s2, s3, v, s5, some (.ref L6), some (.ref L7), s8, s9, s10] H := by
  refine ⟨_, (pss_one (ps_if (PW.pt (pw_or (pt_not (pt_val (pe_callC C_law_right hr hgd (by rfl) (pa_cons (pv 6) (pa_cons (pe_callB (call_repr hr hgd) (by rfl) T.repr (by decide +kernel) (pa_cons (pv 4) pa_nil)) pa_nil))))) (pw_or1 (pt_not (pt_val (pe_callC C_law_right hr hgd (by rfl) (pa_cons (pv 7) (pa_cons (pe_callB (call_repr hr hgd) (by rfl) T.repr (by decide +kernel) (pa_cons (pv 4) pa_nil)) pa_nil)))))))) (pss_one (ps_ret pe_bl)) pss_nil)), ?_⟩
  rintro D H s0 s1 s2 s3 v s5 s8 s9 s10 y d L6 L7 as6 as7 rfl ⟨hd, d1, d2, d3⟩ h6 e6 h7 e7 q
  simp [tIfS, tOr, tNot, tB, tCall, tCons, tNil, tVar, tCB, rRepr, spRight]
  refine ⟨d, hd, d1, d2, d3, y, d, as6, h6, e6, hd, d1, d2, d3, rfl, fun H1 s1' => ⟨d, dq_same s1' hd, d1, d2, d3, y, d, as7, s1' _ _ h7, errs_same s1' e7, dq_same s1' hd, d1, d2, d3, rfl, fun H2 s2' => ?_⟩⟩
  exact q _ (s1'.trans s2')
theorem vw_upd_dK (H : Hp) (a : Addr) (kvs : List (Key × V)) : vw (upd H a (.dK kvs)) a = some (.dK kvs) := vw_of (upd_same ..) fun _ _ z => by cases z
theorem part7 {fR : Addr} {fdR : FuncData} (hr : Room 3 (A.deeper (envOfC "law" (defScope (topS 48)) s.heap.objs.size f cdv))) (hgd : A.guards = some []) (T : Blt mg) (C_law_right : Cal P w K mg base 3 "_law_right" fR fdR ["_law_some", "_law_noted"] (spRight K)) :
    ∃ t, PSs (lawX P w K mg base f cdv A outer s H0 E) (bodyL.drop 7) t ∧ ∀ (D : Ends) (H : Hp) (s0 s1 s3 s5 s8 s9 s10 : Option V) (y : V) (z : Str) (L6 L7 : Addr) (as6 as7 : List Addr), IsWord 8 z → Thg H z y →
      H L6 = some (.lst (as6.map .ref)) → Errs K H y as6 names1 → H L7 = some (.lst (as7.map .ref)) → Errs K H y as7 names1 →
      (∀ H', Mut H H' → D.nx [s0, s1, some (.str z), s3, some y, s5, some (.ref L6), some (.ref L7), s8, s9, s10] H') → t D [s0, s1, some (.str z), s3, some y, s5, some (.ref L6), some (.ref L7), s8, s9, s10] H := by
  obtain ⟨t10, h10, q10⟩ := part10 (outer := outer) (H0 := H0) (E := E) hr hgd T C_law_right
  have hu : (A.deeper (envOfC "law" (defScope (topS 48)) s.heap.objs.size f cdv)).units + 1 < cLine := by
    have := hr.units
    omega
  refine ⟨_, (pss_cons (ps_if (pt_val (pe_callB isi_d (by rfl) T.isinstance (by decide +kernel) (pa_cons (pv 4) (pa_cons (pe_bltn (v := .ty "list") (by rfl) T.list (by decide +kernel) rfl) pa_nil)))) (pss_one (ps_expr (pe_app (pv 4) (pa_cons pe_str pa_nil)))) pss_nil)
      (pss_cons (ps_if (pt_val (pe_callB isi_d (by rfl) T.isinstance (by decide +kernel) (pa_cons (pv 4) (pa_cons (pe_bltn (v := .ty "dict") (by rfl) T.dict (by decide +kernel) rfl) pa_nil)))) (pss_cons (ps_expr (pe_app (pe_dget hu (pv 4) (pv 2) (fun _ _ => rfl)) (pa_cons pe_str pa_nil)))
      (pss_one (ps_dput hu (pv 4) pe_str pe_int rfl))) pss_nil)
      (pss_cons (ps_if (PW.pt (pw_and (pt_val (pe_callB isi_d (by rfl) T.isinstance (by decide +kernel) (pa_cons (pv 4) (pa_cons (pe_bltn (v := .ty "tuple") (by rfl) T.tuple (by decide +kernel) rfl) pa_nil)))) (pw_and1 (pt_val (pe_callB isi_d (by rfl) T.isinstance (by decide +kernel) (pa_cons (pe_ix ix_d (pv 4) pe_int (fun _ _ => rfl)) (pa_cons (pe_bltn (v := .ty "list") (by rfl) T.list (by decide +kernel) rfl) pa_nil))))))) (pss_one (ps_expr (pe_app (pe_ix ix_d (pv 4) pe_int (fun _ _ => rfl)) (pa_cons pe_str pa_nil)))) pss_nil)
      h10))), ?_⟩
  intro D H s0 s1 s3 s5 s8 s9 s10 y z L6 L7 as6 as7 hz hy h6 e6 h7 e7 q
  have l6 : (as6.map V.ref).length = 31 := by rw [List.length_map, e6.length, names1_len]
  have l7 : (as7.map V.ref).length = 31 := by rw [List.length_map, e7.length, names1_len]
  have go : ∀ (H1 : Hp) (d : PyData), Mut H H1 → Dsh H1 y d → t10 D [s0, s1, some (.str z), s3, some y, s5, some (.ref L6), some (.ref L7), s8, s9, s10] H1 := by
    intro H1 d m hd
    refine q10 D H1 s0 s1 _ s3 _ s5 s8 s9 s10 y d L6 L7 as6 as7 rfl hd (m _ _ h6 (fun xs e => .inl (by cases e; exact l6)) (fun _ e => by cases e)) (errs_mut m e6) (m _ _ h7 (fun xs e => .inl (by cases e; exact l7)) (fun _ e => by cases e)) (errs_mut m e7) fun H' s' => q H' fun b o hb p1 p2 => s' _ _ (m b o hb p1 p2)
  cases hy with
  | non =>
    simp [tSeq, tIfS, tAnd, tB, tCB, tCons, tNil, tVar, tC, tNext, sz_eq, dIsi, tyN]
    exact go H _ Mut.rfl' ⟨.non, sh_non hz⟩
  | bl b =>
    simp [tSeq, tIfS, tAnd, tB, tCB, tCons, tNil, tVar, tC, tNext, sz_eq, dIsi, tyN]
    exact go H _ Mut.rfl' ⟨.bl b, by cases b; exact sh_blF hz; exact sh_blT hz⟩
  | int i hi =>
    simp [tSeq, tIfS, tAnd, tB, tCB, tCons, tNil, tVar, tC, tNext, sz_eq, dIsi, tyN]
    exact go H _ Mut.rfl' ⟨.int i, shows_int hi⟩
  | str =>
    simp [tSeq, tIfS, tAnd, tB, tCB, tCons, tNil, tVar, tC, tNext, sz_eq, dIsi, tyN]
    exact go H _ Mut.rfl' ⟨.str z, sh_str hz⟩
  | t1 a h =>
    simp [tSeq, tIfS, tAnd, tB, tCB, tCons, tNil, tVar, tC, tNext, sz_eq, dIsi, tyN, vw_tup h, tOp, dIx, atI, ixN]
    exact go H _ Mut.rfl' ⟨.tup h (.cons (.str _) (.cons (.str _) (.cons (.int _) (.cons (.int _) .nil)))), sh_t1 hz⟩
  | t2 a b h1 h2 n =>
    simp [tSeq, tIfS, tAnd, tB, tCB, tCons, tNil, tVar, tC, tNext, sz_eq, dIsi, tyN, vw_tup h1, vw_lst h2, tOp, dIx, atI, ixN, tDrop, tApp, rAppend, h2]
    have nab : a ≠ b := by
      rintro rfl
      rw [h1] at h2
      cases h2
    exact go _ _ (mut_lst h2 (by simp) (fun p z => by cases z)) ⟨.tup ((upd_ne nab).trans h1) (.cons (.str _) (.cons (.lst (upd_same ..) n (.cons (.str _) (.cons (.str _) .nil))) .nil)), sh_t2m hz⟩
  | d3 a b h1 h2 n =>
    have nab : a ≠ b := by
      rintro rfl
      rw [h1] at h2
      cases h2
    simp [tSeq, tIfS, tAnd, tB, tCB, tCons, tNil, tVar, tC, tNext, sz_eq, dIsi, tyN, vw_of h1 (fun _ _ z => by cases z), vw_lst h2, vw_upd_dK, tOp, dIx, atI, ixN, tDrop, tApp, rAppend, h2, tDGet, sDPut]
    have nz : ¬ z = "LATER" := by
      rintro rfl
      have := hz.2.2 76 (by decide +kernel)
      omega
    have hp : putK [((.inr z : Key), V.ref b)] (.inr "LATER") (.int 1) = [(.inr z, .ref b), (.inr "LATER", .int 1)] := by
      simp [putK, nz]
    have h1b : upd H b (.lst [V.str z, V.str "later"]) a = some (.dK [(.inr z, .ref b)]) := (upd_ne nab).trans h1
    have pt : DPut (upd H b (.lst [V.str z, V.str "later"])) a (V.str "LATER") (V.int 1) (upd (upd H b (.lst [V.str z, V.str "later"])) a (.dK [(.inr z, .ref b), (.inr "LATER", .int 1)])) :=
      .inl ⟨_, .inr "LATER", h1b, rfl, by rw [sz_eq]; simp, by rw [hp]⟩
    refine ⟨.ref b, .inl ⟨_, .inr z, .inl h1, rfl, by simp [valV]⟩, ⟨b, rfl, _, h2⟩, b, rfl, _, h2, by simp, _, pt, ?_⟩
    rw [vw_upd_dK]
    refine ⟨"dict", rfl, ?_⟩
    rw [if_neg (by decide)]
    exact go _ _ ((mut_lst h2 (by simp) (fun p z => by cases z)).trans (mut_dK h1b)) ⟨.dct (upd_same ..) (.cons (.lst ((upd_ne (Ne.symm nab)).trans (upd_same ..)) n (.cons (.str _) (.cons (.str _) .nil))) (.cons (.int _) .nil)), sh_d3m hz⟩
  | l4 a h n =>
    simp [tSeq, tIfS, tAnd, tB, tCB, tCons, tNil, tVar, tC, tNext, sz_eq, dIsi, tyN, vw_lst h, h, tOp, dIx, atI, ixN, tDrop, tApp, rAppend]
    exact go _ _ (mut_lst h (by simp) (fun p z => by cases z)) ⟨.lst (upd_same ..) n (.cons (.str _) (.cons (.str _) .nil)), sh_l4m hz⟩
  | l5 a b c h1 n1 h2 n2 h3 =>
    simp [tSeq, tIfS, tAnd, tB, tCB, tCons, tNil, tVar, tC, tNext, sz_eq, dIsi, tyN, vw_lst h1, h1, tOp, dIx, atI, ixN, tDrop, tApp, rAppend]
    have nab : b ≠ a := by
      rintro rfl
      rw [h1] at h2
      cases h2
    have nac : c ≠ a := by
      rintro rfl
      rw [h1] at h3
      cases h3
    exact go _ _ (mut_lst h1 (by simp) (fun p z => by cases z)) ⟨.lst (upd_same ..) n1 (.cons (.lst ((upd_ne nab).trans h2) n2 (.cons (.str _) .nil)) (.cons (.dct ((upd_ne nac).trans h3) (.cons (.str _) .nil)) (.cons (.str _) .nil))), sh_l5m hz⟩
end K1
end L2
set_option maxHeartbeats 4000000
namespace L2
namespace K1
open PySem PySem.Spec PyProof.Rows Q1 TL
variable {P : Program} {w : World} {K : PySem.W.Frag} {mg : Str → Option Value} {base : Heap} {f : Addr} {fd : FuncData}
variable {cdv : Value} {A : Around} {outer : List Env} {s : Shared} {H0 : Hp} {E : XK}
theorem same_mut {H H1 H2 : Hp} (s : Same H H1) (m : Mut H1 H2) : Mut H H2 := fun b o h p q => m b o (s b o h) p q
theorem shown_none : (PyData.none).shown = "None" := by decide +kernel
theorem part5 {fR fB : Addr} {fdR fdB : FuncData} (hr : Room 3 (A.deeper (envOfC "law" (defScope (topS 48)) s.heap.objs.size f cdv))) (hgd : A.guards = some []) (T : Blt mg) (C_law_right : Cal P w K mg base 3 "_law_right" fR fdR ["_law_some", "_law_noted"] (spRight K))
    (C_law_bare : Cal P w K mg base 3 "_law_bare" fB fdB [] (spBare K)) :
    ∃ t, PSs (lawX P w K mg base f cdv A outer s H0 E) (bodyL.drop 5) t ∧ ∀ (D : Ends) (H : Hp) (s0 s1 s3 s9 s10 : Option V) (y : V) (z : Str) (d : PyData) (L6 L7 L8 tl : Addr) (as6 as7 as8 : List Addr), IsWord 8 z → Thg H z y → Dsh H y d →
      H L6 = some (.lst (as6.map .ref)) → Errs K H y as6 names1 → H L7 = some (.lst (as7.map .ref)) → Errs K H y as7 names1 → H L8 = some (.lst (as8.map .ref)) → Errs K H (.ref tl) as8 names1 → H tl = some (.tup [.str "later", .str z]) →
      (∀ H', Mut H H' → D.nx [s0, s1, some (.str z), s3, some y, some (.str d.shown), some (.ref L6), some (.ref L7), some (.ref L8), s9, s10] H') →
      t D [s0, s1, some (.str z), s3, some y, some (.str d.shown), some (.ref L6), some (.ref L7), some (.ref L8), s9, s10] H := by
  obtain ⟨t7, h7, q7⟩ := part7 (outer := outer) (H0 := H0) (E := E) hr hgd T C_law_right
  refine ⟨_, (pss_cons (ps_if (PW.pt (pw_or (pt_not (pt_val (pe_callC C_law_right hr hgd (by rfl) (pa_cons (pe_callC0 C_law_bare hr hgd (by rfl)) (pa_cons pe_str pa_nil))))) (pw_or1 (pt_not (pt_val (pe_callC C_law_right hr hgd (by rfl) (pa_cons (pv 8) (pa_cons (pe_callB (call_repr hr hgd) (by rfl) T.repr (by decide +kernel) (pa_cons (pe_tup (pa_cons pe_str (pa_cons (pv 2) pa_nil))) pa_nil)) pa_nil)))))))) (pss_one (ps_ret pe_bl)) pss_nil)
      (pss_cons (ps_if (PW.pt (pw_or (pt_not (pt_val (pe_callC C_law_right hr hgd (by rfl) (pa_cons (pv 6) (pa_cons (pv 5) pa_nil))))) (pw_or1 (pt_not (pt_val (pe_callC C_law_right hr hgd (by rfl) (pa_cons (pv 7) (pa_cons (pv 5) pa_nil)))))))) (pss_one (ps_ret pe_bl)) pss_nil)
      h7)), ?_⟩
  rintro D H s0 s1 s3 s9 s10 y z d L6 L7 L8 tl as6 as7 as8 hz hy ⟨hd, d1, d2, d3⟩ h6 e6 hl7 e7 h8 e8 ht q
  obtain ⟨b1, b2, b3⟩ := sh_non hz
  obtain ⟨c1, c2, c3⟩ := sh_lt hz
  simp [tSeq, tIfS, tOr, tNot, tB, tCall, tCons, tNil, tVar, tCB, tC, rRepr, spRight, spBare, tTup, tNext]
  intro L1 as1 H1 s1' n1 g1 e1
  refine ⟨_, _, as1, g1, e1, .non, b1, b2, b3, shown_none.symm, fun H2 s2' => ⟨by decide +kernel, fun p hp => ?_⟩⟩
  have s02 := s1'.trans s2'
  have s03 := s02.trans (Same.new (o := .tup [.str "later", .str z]) hp)
  have t2 : Dq (upd H2 p (.tup [.str "later", .str z])) (.ref p) (.tuple [.str "later", .str z]) := .tup (upd_same ..) (.cons (.str _) (.cons (.str _) .nil))
  have t3 : Dq (upd H2 p (.tup [.str "later", .str z])) (.ref tl) (.tuple [.str "later", .str z]) := .tup (s03 _ _ ht) (.cons (.str _) (.cons (.str _) .nil))
  refine ⟨_, t2, c1, c2, c3, _, _, as8, s03 _ _ h8, errs_same s03 e8, t3, c1, c2, c3, rfl, fun H4 s4' => ?_⟩
  have s04 := s03.trans s4'
  refine ⟨_, _, as6, s04 _ _ h6, errs_same s04 e6, dq_same s04 hd, d1, d2, d3, rfl, fun H5 s5' => ?_⟩
  have s05 := s04.trans s5'
  refine ⟨_, _, as7, s05 _ _ hl7, errs_same s05 e7, dq_same s05 hd, d1, d2, d3, rfl, fun H6 s6' => ?_⟩
  have s06 := s05.trans s6'
  exact q7 D H6 s0 s1 s3 _ _ s9 s10 y z L6 L7 as6 as7 hz (thg_same hy s06) (s06 _ _ h6) (errs_same s06 e6) (s06 _ _ hl7) (errs_same s06 e7) fun H' m => q H' (same_mut s06 m)
end K1
end L2
set_option maxHeartbeats 4000000
namespace L2
namespace K1
open PySem PySem.Spec PyProof.Rows Q1 TL
variable {P : Program} {w : World} {K : PySem.W.Frag} {mg : Str → Option Value} {base : Heap} {f : Addr} {fd : FuncData}
variable {cdv : Value} {A : Around} {outer : List Env} {s : Shared} {H0 : Hp} {E : XK}
theorem part3 {fR fB fF fC : Addr} {fdR fdB fdF fdC : FuncData} (hr : Room 3 (A.deeper (envOfC "law" (defScope (topS 48)) s.heap.objs.size f cdv))) (hgd : A.guards = some []) (T : Blt mg) (C_law_right : Cal P w K mg base 3 "_law_right" fR fdR ["_law_some", "_law_noted"] (spRight K))
    (C_law_bare : Cal P w K mg base 3 "_law_bare" fB fdB [] (spBare K)) (C_law_first : Cal P w K mg base 3 "_law_first" fF fdF ["_law_thing"] (spErrs K)) (C_law_called : Cal P w K mg base 3 "_law_called" fC fdC ["_law_thing"] (spErrs K)) :
    ∃ t, PSs (lawX P w K mg base f cdv A outer s H0 E) (bodyL.drop 3) t ∧ ∀ (D : Ends) (H : Hp) (s0 s1 s3 s5 s6 s7 s8 s9 s10 : Option V) (y : V) (z : Str), IsWord 8 z → Thg H z y →
      (∀ H' s5 s6 s7 s8, Mut H H' → D.nx [s0, s1, some (.str z), s3, some y, s5, s6, s7, s8, s9, s10] H') →
      t D [s0, s1, some (.str z), s3, some y, s5, s6, s7, s8, s9, s10] H := by
  obtain ⟨t5, h5, q5⟩ := part5 (outer := outer) (H0 := H0) (E := E) hr hgd T C_law_right C_law_bare
  refine ⟨_, (pss_cons (ps_set (i := 5) sclaw.nd rfl (Or.inl rfl) (pe_callB (call_repr hr hgd) (by rfl) T.repr (by decide +kernel) (pa_cons (pv 4) pa_nil)))
      (pss_cons (ps_par3 (i := 6) (j := 7) (l := 8) rfl sclaw.nd rfl rfl rfl (by decide) (by decide) (by decide) rfl rfl rfl (pa_cons (pe_callC C_law_first hr hgd (by rfl) (pa_cons (pv 4) pa_nil)) (pa_cons (pe_callC C_law_called hr hgd (by rfl) (pa_cons (pv 4) pa_nil)) (pa_cons (pe_callC C_law_first hr hgd (by rfl) (pa_cons (pe_tup (pa_cons pe_str (pa_cons (pv 2) pa_nil))) pa_nil)) pa_nil))) (by rfl))
      h5)), ?_⟩
  rintro D H s0 s1 s3 s5 s6 s7 s8 s9 s10 y z hz hy q
  obtain ⟨d, hd, d1, d2, d3⟩ := thg_shows hz hy
  simp [tSeq, tAsg, gName, tCall, tCons, tNil, tVar, tCB, tC, rRepr, spErrs, tTup, tPar3]
  refine ⟨d, hd, d1, d2, d3, fun L6 as6 H1 s1' n1 g1 e1 L7 as7 H2 s2' n2 g2 e2 => ⟨by decide +kernel, fun p hp L8 as8 H4 s4' n4 g4 e4 => ?_⟩⟩
  have s23 : Same H2 (upd H2 p (.tup [.str "later", .str z])) := Same.new hp
  have s24 := s23.trans s4'
  have s14 := s2'.trans s24
  have s04 := s1'.trans s14
  refine ⟨_, _, _, ⟨rfl, rfl, rfl⟩, ?_⟩
  exact q5 D _ s0 s1 s3 s9 s10 y z d L6 L7 L8 p as6 as7 as8 hz (thg_same hy s04) ⟨dq_same s04 hd, d1, d2, d3⟩ (s14 _ _ g1) (errs_same s14 e1) (s24 _ _ g2) (errs_same s24 e2) g4 e4 (s4' _ _ (upd_same ..)) fun H' m => q H' _ _ _ _ (same_mut s04 m)
end K1
end L2
set_option maxHeartbeats 4000000
namespace L2
namespace K1
open PySem PySem.Spec PyProof.Rows Q1 TL
variable {P : Program} {w : World} {K : PySem.W.Frag} {mg : Str → Option Value} {base : Heap} {f : Addr} {fd : FuncData}
variable {cdv : Value} {A : Around} {outer : List Env} {s : Shared} {H0 : Hp} {E : XK}
theorem part0 {fR fB fF fC fW fO : Addr} {fdR fdB fdF fdC fdW fdO : FuncData} (hr : Room 3 (A.deeper (envOfC "law" (defScope (topS 48)) s.heap.objs.size f cdv))) (hgd : A.guards = some []) (T : Blt mg) (C_law_right : Cal P w K mg base 3 "_law_right" fR fdR ["_law_some", "_law_noted"] (spRight K))
    (C_law_bare : Cal P w K mg base 3 "_law_bare" fB fdB [] (spBare K)) (C_law_first : Cal P w K mg base 3 "_law_first" fF fdF ["_law_thing"] (spErrs K)) (C_law_called : Cal P w K mg base 3 "_law_called" fC fdC ["_law_thing"] (spErrs K))
    (C_law_word : Cal P w K mg base 3 "_law_word" fW fdW ["_law_purse_here"] spWord) (C_law_one_of : Cal P w K mg base 3 "_law_one_of" fO fdO ["_law_purse_here", "_law_some"] spOneOf) :
    ∃ t, PSs (lawX P w K mg base f cdv A outer s H0 E) bodyL t ∧ ∀ (D : Ends) (H : Hp) (s0 s2 s3 s4 s5 s6 s7 s8 s9 s10 : Option V) (p L0 : Addr), Purse H p 0 → H L0 = some (.lst [.ref p]) →
      (∀ H' s2 s3 s4 s5 s6 s7 s8, H' L0 = some (.lst [.ref p]) → D.nx [s0, some (.ref p), s2, s3, s4, s5, s6, s7, s8, s9, s10] H') →
      t D [s0, some (.ref p), s2, s3, s4, s5, s6, s7, s8, s9, s10] H := by
  obtain ⟨t3, h3, q3⟩ := part3 (outer := outer) (H0 := H0) (E := E) hr hgd T C_law_right C_law_bare C_law_first C_law_called
  refine ⟨_, (pss_cons (ps_set (i := 2) sclaw.nd rfl (Or.inl rfl) (pe_callC C_law_word hr hgd (by rfl) (pa_cons (pv 1) pa_nil)))
      (pss_cons (ps_set (i := 3) sclaw.nd rfl (Or.inl rfl) (pe_lstS (pa_cons pe_non (pa_cons pe_bl (pa_cons pe_bl (pa_cons pe_int (pa_cons (pv 2) (pa_cons (pe_un un_neg (pe_ix ix_d (pv 1) pe_int (fun _ _ => rfl))) (pa_cons (pe_tup (pa_cons pe_str (pa_cons (pv 2) (pa_cons pe_int (pa_cons pe_int pa_nil))))) (pa_cons (pe_tup (pa_cons (pv 2) (pa_cons (pe_lstS (pa_cons (pv 2) pa_nil)) pa_nil))) (pa_cons (pe_disp (pps_cons (pv 2) (pe_lstS (pa_cons (pv 2) pa_nil)) pps_nil) (by rfl) (by rfl) (fun z => by cases z) (by decide)) pa_nil)))))))))))
      (pss_cons (ps_set (i := 4) sclaw.nd rfl (Or.inl rfl) (pe_callC C_law_one_of hr hgd (by rfl) (pa_cons (pv 1) (pa_cons (pe_op add_d (pv 3) (pe_lstS (pa_cons (pe_lstS (pa_cons (pv 2) pa_nil)) (pa_cons (pe_lstS (pa_cons (pe_lstS (pa_cons (pv 2) pa_nil)) (pa_cons (pe_disp (pps_cons pe_str (pv 2) pps_nil) (by rfl) (by rfl) (fun z => by cases z) (by decide)) pa_nil))) pa_nil)))) pa_nil))))
      h3))), ?_⟩
  rintro D H s0 s2 s3 s4 s5 s6 s7 s8 s9 s10 p L0 hp hL q
  refine ⟨_, rfl, ?_⟩
  show ∃ c : Int, Purse H p c ∧ _
  refine ⟨0, hp, by omega, fun z H1 hz p1 f1 => ?_⟩
  have hp1 := p1
  obtain ⟨g0, g1, g2, g3, ep, gr0, gr1, gr2, gr3⟩ := p1
  have hL1 : H1 L0 = some (.lst [.ref p]) := f1 _ _ (by rintro rfl; obtain ⟨a0, a1, a2, a3, ea, _⟩ := hp; rw [ea] at hL; cases hL) hL
  simp [tSeq, tAsg, gName, tCall, tCons, tNil, tVar, tCB, tC, tTup, tLstS, tUn, tOp, dIx, rU, tDisp, tPairs, sz_eq, atI, ixN, vw_lst ep]
  intro a1 n1
  have s12 : Same H1 (upd H1 a1 (.tup [.str "says", .str z, .int 1, .int 2])) := Same.new n1
  have h1 : upd H1 a1 (.tup [.str "says", .str z, .int 1, .int 2]) a1 = some (.tup [.str "says", .str z, .int 1, .int 2]) := upd_same ..
  generalize upd H1 a1 (.tup [.str "says", .str z, .int 1, .int 2]) = H2 at *
  intro a2 n2 m2
  have s23 : Same H2 (upd H2 a2 (.lst [.str z])) := Same.new n2
  have h2 : upd H2 a2 (.lst [.str z]) a2 = some (.lst [.str z]) := upd_same ..
  generalize upd H2 a2 (.lst [.str z]) = H3 at *
  intro a3 n3
  have s34 : Same H3 (upd H3 a3 (.tup [.str z, .ref a2])) := Same.new n3
  have h3 : upd H3 a3 (.tup [.str z, .ref a2]) a3 = some (.tup [.str z, .ref a2]) := upd_same ..
  generalize upd H3 a3 (.tup [.str z, .ref a2]) = H4 at *
  intro a4 n4
  have s45 : Same H4 (upd H4 a4 (.dK [])) := Same.new n4
  have h4 : upd H4 a4 (.dK []) a4 = some (.dK []) := upd_same ..
  generalize upd H4 a4 (.dK []) = H5 at *
  intro a5 n5 m5
  have s56 : Same H5 (upd H5 a5 (.lst [.str z])) := Same.new n5
  have h5 : upd H5 a5 (.lst [.str z]) a5 = some (.lst [.str z]) := upd_same ..
  generalize upd H5 a5 (.lst [.str z]) = H6 at *
  have d54 : a5 ≠ a4 := by
    rintro rfl
    rw [h4] at n5
    cases n5
  have s47 : Same H4 (upd H6 a4 (.dK [(.inr z, .ref a5)])) := same_upd (s45.trans s56) n4
  have h7 : upd H6 a4 (.dK [(.inr z, .ref a5)]) a4 = some (.dK [(.inr z, .ref a5)]) := upd_same ..
  have h75 : upd H6 a4 (.dK [(.inr z, .ref a5)]) a5 = some (.lst [.str z]) := (upd_ne d54).trans h5
  refine ⟨s56 _ _ h4, [(.inr z, .ref a5)], rfl, by simp, ?_⟩
  rw [show mergeK [] [((.inr z : Key), V.ref a5)] = [(.inr z, .ref a5)] from rfl]
  generalize upd H6 a4 (.dK [(.inr z, .ref a5)]) = H7 at *
  intro a6 n6 m6
  have s78 : Same H7 (upd H7 a6 (.lst [V.non, V.bl true, V.bl false, V.int 0, V.str z, V.int (-g1), V.ref a1, V.ref a3, V.ref a4])) := Same.new n6
  have h6 : upd H7 a6 (.lst [V.non, V.bl true, V.bl false, V.int 0, V.str z, V.int (-g1), V.ref a1, V.ref a3, V.ref a4]) a6 = some (.lst [V.non, V.bl true, V.bl false, V.int 0, V.str z, V.int (-g1), V.ref a1, V.ref a3, V.ref a4]) := upd_same ..
  generalize upd H7 a6 (.lst [V.non, V.bl true, V.bl false, V.int 0, V.str z, V.int (-g1), V.ref a1, V.ref a3, V.ref a4]) = H8 at *
  intro a7 n7 m7
  have s89 : Same H8 (upd H8 a7 (.lst [.str z])) := Same.new n7
  have h8 : upd H8 a7 (.lst [.str z]) a7 = some (.lst [.str z]) := upd_same ..
  generalize upd H8 a7 (.lst [.str z]) = H9 at *
  intro a8 n8 m8
  have s9A : Same H9 (upd H9 a8 (.lst [.str z])) := Same.new n8
  have h9 : upd H9 a8 (.lst [.str z]) a8 = some (.lst [.str z]) := upd_same ..
  generalize upd H9 a8 (.lst [.str z]) = HA at *
  intro a9 n9
  refine ⟨[(.inr "odd", .str z)], rfl, by simp, ?_⟩
  rw [show mergeK [] [((.inr "odd" : Key), V.str z)] = [(.inr "odd", .str z)] from rfl]
  have sAB : Same HA (upd (upd HA a9 (.dK [])) a9 (.dK [(.inr "odd", .str z)])) := same_upd (Same.new n9) n9
  have hB : upd (upd HA a9 (.dK [])) a9 (.dK [(.inr "odd", .str z)]) a9 = some (.dK [(.inr "odd", .str z)]) := upd_same ..
  generalize upd (upd HA a9 (.dK [])) a9 (.dK [(.inr "odd", .str z)]) = HB at *
  intro aA nA mA
  have sBC : Same HB (upd HB aA (.lst [.ref a8, .ref a9])) := Same.new nA
  have hC : upd HB aA (.lst [.ref a8, .ref a9]) aA = some (.lst [.ref a8, .ref a9]) := upd_same ..
  generalize upd HB aA (.lst [.ref a8, .ref a9]) = HC at *
  intro aB nB mB
  have sCD : Same HC (upd HC aB (.lst [.ref a7, .ref aA])) := Same.new nB
  have hD : upd HC aB (.lst [.ref a7, .ref aA]) aB = some (.lst [.ref a7, .ref aA]) := upd_same ..
  generalize upd HC aB (.lst [.ref a7, .ref aA]) = HD at *
  have sBD := sBC.trans sCD
  have sAD := sAB.trans sBD
  have s9D := s9A.trans sAD
  have s8D := s89.trans s9D
  have s7D := s78.trans s8D
  have s4D := s47.trans s7D
  have s3D := s34.trans s4D
  have s2D := s23.trans s3D
  have s1D := s12.trans s2D
  simp only [dAdd, s8D _ _ h6, hD]
  refine ⟨by simp [sz_eq], fun aD nD => ?_⟩
  have sDE : Same HD (upd HD aD (.lst ([V.non, V.bl true, V.bl false, V.int 0, V.str z, V.int (-g1), V.ref a1, V.ref a3, V.ref a4] ++ [V.ref a7, V.ref aA]))) := Same.new nD
  have hE : upd HD aD (.lst ([V.non, V.bl true, V.bl false, V.int 0, V.str z, V.int (-g1), V.ref a1, V.ref a3, V.ref a4] ++ [V.ref a7, V.ref aA])) aD = some (.lst ([V.non, V.bl true, V.bl false, V.int 0, V.str z, V.int (-g1), V.ref a1, V.ref a3, V.ref a4] ++ [V.ref a7, V.ref aA])) := upd_same ..
  generalize upd HD aD (.lst ([V.non, V.bl true, V.bl false, V.int 0, V.str z, V.int (-g1), V.ref a1, V.ref a3, V.ref a4] ++ [V.ref a7, V.ref aA])) = HE at *
  have s1E := s1D.trans sDE
  have pp : Purse HE p (0 + 10) := hp1.same s1E
  have npD : p ≠ aD := by
    rintro rfl
    obtain ⟨b0, b1, b2, b3, eb, _⟩ := hp1
    rw [s1D _ _ eb] at nD
    cases nD
  show ∃ (c : Int) (xs : List V), Purse HE p c ∧ _
  refine ⟨_, _, pp, by omega, npD, .inl (vw_lst hE), by simp, by simp, fun i x HF hx pF bF => ?_⟩
  have ne : ∀ {b : Addr} {o : HO} {H : Hp}, Same H HE → H b = some o → (∀ b0 b1 b2 b3 : Int, o ≠ .lst [.int b0, .int b1, .int b2, .int b3]) → HF b = some o := by
    intro b o H sH hb ho
    rw [bF b ?_]
    · exact sH _ _ hb
    · rintro rfl
      obtain ⟨b0, b1, b2, b3, eb, _⟩ := pp
      rw [sH _ _ hb] at eb
      cases eb
      exact ho _ _ _ _ rfl
  have s2E := s2D.trans sDE
  have s3E := s3D.trans sDE
  have s4E := s4D.trans sDE
  have s7E := s7D.trans sDE
  have s8E := s8D.trans sDE
  have s9E := s9D.trans sDE
  have sAE := sAD.trans sDE
  have sBE := sBD.trans sDE
  have sCE := sCD.trans sDE
  have k1 : HF a1 = some (.tup [.str "says", .str z, .int 1, .int 2]) := ne s2E h1 (fun _ _ _ _ e => by cases e)
  have k2 : HF a2 = some (.lst [.str z]) := ne s3E h2 (fun _ _ _ _ e => by cases e)
  have k3 : HF a3 = some (.tup [.str z, .ref a2]) := ne s4E h3 (fun _ _ _ _ e => by cases e)
  have k4 : HF a4 = some (.dK [(.inr z, .ref a5)]) := ne s7E h7 (fun _ _ _ _ e => by cases e)
  have k5 : HF a5 = some (.lst [.str z]) := ne s7E h75 (fun _ _ _ _ e => by cases e)
  have k7 : HF a7 = some (.lst [.str z]) := ne s9E h8 (fun _ _ _ _ e => by cases e)
  have k8 : HF a8 = some (.lst [.str z]) := ne sAE h9 (fun _ _ _ _ e => by cases e)
  have k9 : HF a9 = some (.dK [(.inr "odd", .str z)]) := ne sBE hB (fun _ _ _ _ e => by cases e)
  have kA : HF aA = some (.lst [.ref a8, .ref a9]) := ne sCE hC (fun _ _ _ _ e => by cases e)
  have kL : HF L0 = some (.lst [.ref p]) := ne s1E hL1 (fun _ _ _ _ e => by cases e)
  have th : Thg HF z x := by
    match i, hx with
    | 0, hx => cases hx; exact .non
    | 1, hx => cases hx; exact .bl true
    | 2, hx => cases hx; exact .bl false
    | 3, hx => cases hx; exact .int 0 (by decide)
    | 4, hx => cases hx; exact .str
    | 5, hx => cases hx; exact .int (-g1) (by omega)
    | 6, hx => cases hx; exact .t1 a1 k1
    | 7, hx => cases hx; exact .t2 a3 a2 k3 k2 m2
    | 8, hx => cases hx; exact .d3 a4 a5 k4 k5 m5
    | 9, hx => cases hx; exact .l4 a7 k7 m7
    | 10, hx => cases hx; exact .l5 aA a8 a9 kA mA k8 m8 k9
    | n + 11, hx => simp at hx
  exact q3 D HF s0 (some (.ref p)) _ s5 s6 s7 s8 s9 s10 x z hz th fun H' t5 t6 t7 t8 m => q H' _ _ _ _ _ _ _ (m _ _ kL (fun xs e => .inr (by cases e; exact ⟨p, rfl⟩)) (fun _ e => by cases e))
end K1
end L2
set_option maxHeartbeats 4000000
namespace L2
namespace K1
open PySem PySem.Spec PyProof.Rows Q1 TL
variable {P : Program} {w : World} {K : PySem.W.Frag} {mg : Str → Option Value} {base : Heap} {f : Addr} {fd : FuncData}
variable {cdv : Value} {A : Around} {outer : List Env} {s : Shared} {H0 : Hp} {E : XK}
/-- the classes without a field -/
def names3 : List Str := ["NothingToUndo", "NothingToRedo", "SpreadError"]
structure Bare3 (K : PySem.W.Frag) : Prop where
  ex : ∀ x ∈ names3, PySem.W.excIn K (adr K x) [.type "ValueError", .type "Exception", .type "BaseException", .type "object"] "ValueError.__new__" = true
  kp : ∀ x ∈ names3, PySem.W.keepIn K (.ref (adr K x)) = true
/-- the rest of the law behind its loop -/
def tailL : List Stmt := (defBody (topS 48)).drop 1
/-- at D a list of new lists, the j-th one as c says -/
def RowsF (c : Nat → List V) (H : Hp) (D : Addr) (i : Nat) (H' : Hp) : Prop := ∃ ls : List Addr, ls.length = i ∧ H' D = some (.lst (ls.map .ref)) ∧ (∀ j l, ls[j]? = some l → l ≠ D ∧ H' l = some (.lst (c j))) ∧ Same H H'
theorem rowsF_0 {c : Nat → List V} {H : Hp} {D : Addr} (h : H D = none) : RowsF c H D 0 (upd H D (.lst [])) := ⟨[], rfl, upd_same .., by simp, Same.new h⟩
theorem rowsF_step {c : Nat → List V} {H H1 H2 : Hp} {D l : Addr} {i : Nat} (hD : H D = none) (hi : i ≤ 40) (h : RowsF c H D i H1) (s : Same H1 H2) (hn : H1 l = none) (hl : H2 l = some (.lst (c i))) :
    ∃ acc, H2 D = some (.lst acc) ∧ acc.length < sizeLine ∧ RowsF c H D (i + 1) (upd H2 D (.lst (acc ++ [.ref l]))) := by
  obtain ⟨ls, h1, h2, h3, h4⟩ := h
  have nD : l ≠ D := by
    rintro rfl
    rw [h2] at hn
    cases hn
  refine ⟨_, s _ _ h2, by rw [List.length_map, sz_eq]; omega, ls ++ [l], by simp [h1], by rw [upd_same]; simp, fun j m hm => ?_, same_upd (h4.trans s) hD⟩
  by_cases hj : j < ls.length
  · rw [List.getElem?_append_left hj] at hm
    obtain ⟨q1, q2⟩ := h3 j m hm
    exact ⟨q1, (upd_ne q1).trans (s _ _ q2)⟩
  · rw [List.getElem?_append_right (by omega)] at hm
    obtain ⟨hh, _⟩ := List.getElem?_eq_some_iff.mp hm
    have hj2 : j = ls.length := by
      simp at hh
      omega
    subst hj2
    simp at hm
    subst hm
    rw [h1]
    exact ⟨nD, (upd_ne nD).trans hl⟩
theorem names3_34 : ∀ x ∈ names3, x ∈ names34 := by decide +kernel
theorem codes3 : codesL "NothingToUndo" = [31] ∧ codesL "NothingToRedo" = [32] ∧ codesL "SpreadError" = [] := by decide +kernel
def c2 (j : Nat) : List V := [.int ((31 + j : Nat) : Int)]
theorem end_codes {L a1 a2 : Addr} {H : Hp} {s0 s1 s2 s3 s4 s5 s6 s7 s8 s10 : Option V} {Qd : Hp → Prop} (hL : H L = some (.lst [.ref a1, .ref a2])) (e1 : IsE0 H a1 (adr K "NothingToUndo")) (e2 : IsE0 H a2 (adr K "NothingToRedo")) {D : Addr} (hD : H D = none)
    (q : ∀ H', RowsF c2 H D 2 H' → Qd H') : LcLoop (Itl K L) (gName 10) tYes (tCall (spCode K) [] E0 (tCons (tVar 10) tNil)) [10] [s0, s1, s2, s3, s4, s5, s6, s7, s8, some (.ref L), s10] H D Qd := by
  refine lcl_lst [.ref a1, .ref a2] (fun i H' => RowsF c2 H D i H') (rowsF_0 hD) (fun i H' _ h => vw_lst (h.choose_spec.2.2.2 _ _ hL)) ?_ fun H' h => q H' h
  intro i x H' hx h
  have hS : Same H H' := h.choose_spec.2.2.2
  match i, hx with
  | 0, hx =>
    cases hx
    refine ⟨by rfl, yes_q ⟨_, by rfl, ?_⟩⟩
    show ∃ x, x ∈ names34 ∧ IsE0 H' a1 (adr K x) ∧ _
    refine ⟨"NothingToUndo", by decide +kernel, isE0_same e1 hS, fun l H2 e f r => ?_⟩
    rw [codes3.1] at r
    exact rowsF_step hD (by omega) h e f r
  | 1, hx =>
    cases hx
    refine ⟨by rfl, yes_q ⟨_, by rfl, ?_⟩⟩
    show ∃ x, x ∈ names34 ∧ IsE0 H' a2 (adr K x) ∧ _
    refine ⟨"NothingToRedo", by decide +kernel, isE0_same e2 hS, fun l H2 e f r => ?_⟩
    rw [codes3.2.1] at r
    exact rowsF_step hD (by omega) h e f r
  | n + 2, hx => simp at hx
theorem end_all {L : Addr} {as : List Addr} {H : Hp} {s0 s1 s2 s3 s4 s5 s6 s7 s8 s10 : Option V} {Qd : Hp → Prop} (hL : H L = some (.lst (as.map .ref))) (hn : as.length = 3) (he : ∀ a ∈ as, ∃ x ∈ names34, IsE0 H a (adr K x)) {D : Addr} (hD : H D = none)
    (q : ∀ H', Same H H' → H' D = some (.lst [.bl true, .bl true, .bl true]) → Qd H') : LcLoop (Itl K L) (gName 10) tYes (tCall (spIsErr K) [] E0 (tCons (tVar 10) tNil)) [10] [s0, s1, s2, s3, s4, s5, s6, s7, s8, some (.ref L), s10] H D Qd := by
  refine lcl_lst (as.map .ref) (fun i H' => H' D = some (.lst (List.replicate i (.bl true))) ∧ Same H H') ⟨upd_same .., Same.new hD⟩ (fun i H' _ h => vw_lst (h.2 _ _ hL)) ?_ fun H' h => ?_
  · rintro i x H' hx ⟨h1, h2⟩
    rw [List.getElem?_map] at hx
    obtain ⟨a, ha, rfl⟩ := Option.map_eq_some_iff.mp hx
    obtain ⟨hi, _⟩ := List.getElem?_eq_some_iff.mp ha
    obtain ⟨x, hx, ie⟩ := he a (List.mem_of_getElem? ha)
    refine ⟨by rfl, yes_q ⟨_, by rfl, ?_⟩⟩
    show ∃ x, x ∈ names34 ∧ IsE0 H' a (adr K x) ∧ _
    refine ⟨x, hx, isE0_same ie h2, _, h1, ?_, ?_, same_upd h2 hD⟩
    · rw [List.length_replicate, sz_eq]
      omega
    · rw [upd_same, List.replicate_succ']
  · rw [List.length_map, hn] at h
    exact q H' h.2 h.1
theorem data2 : SeqAt.shaped (.list [.list [.int 31], .list [.int 32]]) = true := by decide +kernel
theorem eqv2 : PyData.eqv (.list [.list [.int 31], .list [.int 32]]) (.list [.list [.int 31], .list [.int 32]]) = true := by decide +kernel
theorem data0 : SeqAt.shaped (.list []) = true := by decide +kernel
theorem eqv0 : PyData.eqv (.list []) (.list []) = true := by decide +kernel
theorem isE0_upd {H : Hp} {L a C : Addr} {xs : List V} {o : HO} (h : IsE0 H a C) (hL : H L = some (.lst xs)) : IsE0 (upd H L o) a C := by
  have ne : ∀ b u, H b = some u → (∀ xs, u ≠ .lst xs) → upd H L o b = some u := fun b u hb hu => by
    by_cases z : b = L
    · subst z
      rw [hL] at hb
      cases hb
      exact absurd rfl (hu _)
    · exact (upd_ne z).trans hb
  rcases h with ⟨y, d, h1, h2⟩ | h
  · exact .inl ⟨y, d, ne _ _ h1 (fun _ z => by cases z), ne _ _ h2 (fun _ z => by cases z)⟩
  · exact .inr (ne _ _ h (fun _ z => by cases z))
theorem part_end {fC fI : Addr} {fdC fdI : FuncData} (hr : Room 3 (A.deeper (envOfC "law" (defScope (topS 48)) s.heap.objs.size f cdv))) (hgd : A.guards = some []) (T : Blt mg) (CE : Clss K mg) (B3 : Bare3 K)
    (C_law_code : Cal P w K mg base 3 "_law_code" fC fdC ["_law_error"] (spCode K)) (C_law_is_error : Cal P w K mg base 3 "_law_is_error" fI fdI ["_law_error"] (spIsErr K)) :
    ∃ t, PSs (lawX P w K mg base f cdv A outer s H0 E) tailL t ∧ ∀ (D : Ends) (H : Hp) (s0 s1 s2 s3 s4 s5 s6 s7 s8 s9 s10 : Option V), (∀ H', D.rt (.bl true) H') → t D [s0, s1, s2, s3, s4, s5, s6, s7, s8, s9, s10] H := by
  refine ⟨_, (pss_cons (ps_set (i := 9) sclaw.nd rfl (Or.inl rfl) (pe_lst (pa_cons (pe_errB (B3.ex "NothingToUndo" (by decide +kernel)) (CE.g "NothingToUndo" (by decide +kernel)) (B3.kp "NothingToUndo" (by decide +kernel)) (by rfl)) (pa_cons (pe_errB (B3.ex "NothingToRedo" (by decide +kernel)) (CE.g "NothingToRedo" (by decide +kernel)) (B3.kp "NothingToRedo" (by decide +kernel)) (by rfl)) pa_nil))))
      (pss_cons (ps_if (pt_cmpR (op_neD hr.units) (pe_lc (own := [("_law_error", 10)]) (by rfl) sclaw.nd (pi_any (pv 9)) (blkOk_by (N := ["_law_script", "_law_purse_here", "_law_word_here", "_law_plain", "_law_thing", "_law_noted", "_law_some", "_law_called_here", "_law_later", "_law_rest", "_law_error"]) (sc := defScope (topS 48)) (own := [("_law_error", 10)]) (by decide +kernel)) (fun _ _ _ _ _ => (pg_name (i := 10) sclaw.nd rfl (Or.inl rfl))) (fun _ _ _ _ _ => pts_nil) (fun _ _ _ _ _ => (pe_callC C_law_code hr hgd (by rfl) (pa_cons (pv 10) pa_nil)))) (pe_lst (pa_cons (pe_lst (pa_cons pe_int pa_nil)) (pa_cons (pe_lst (pa_cons pe_int pa_nil)) pa_nil))) (nomark _)) (pss_one (ps_ret pe_bl)) pss_nil)
      (pss_cons (ps_expr (pe_app (pv 9) (pa_cons (pe_errB (B3.ex "SpreadError" (by decide +kernel)) (CE.g "SpreadError" (by decide +kernel)) (B3.kp "SpreadError" (by decide +kernel)) (by rfl)) pa_nil)))
      (pss_one (ps_ret (pe_and (pe_callB (cr_all rfl) (by rfl) T.all (by decide +kernel) (pa_cons (pe_lc (own := [("_law_error", 10)]) (by rfl) sclaw.nd (pi_any (pv 9)) (blkOk_by (N := ["_law_script", "_law_purse_here", "_law_word_here", "_law_plain", "_law_thing", "_law_noted", "_law_some", "_law_called_here", "_law_later", "_law_rest", "_law_error"]) (sc := defScope (topS 48)) (own := [("_law_error", 10)]) (by decide +kernel)) (fun _ _ _ _ _ => (pg_name (i := 10) sclaw.nd rfl (Or.inl rfl))) (fun _ _ _ _ _ => pts_nil) (fun _ _ _ _ _ => (pe_callC C_law_is_error hr hgd (by rfl) (pa_cons (pv 10) pa_nil)))) pa_nil)) (pe_one (pe_cmpR (op_eqD hr.units) (pe_callC C_law_code hr hgd (by rfl) (pa_cons (pe_ix ix_d (pv 9) pe_int (fun _ _ => rfl)) pa_nil)) (pe_lst pa_nil) (nomark _))))))))), ?_⟩
  intro D H s0 s1 s2 s3 s4 s5 s6 s7 s8 s9 s10 q
  simp [tSeq, tAsg, gName, tIfS, tTest, tOp, tCall, tCons, tNil, tVar, tCB, tC, tLst, sz_eq, tLc_eq, iAny, dIter]
  intro a1 n1 a2 n2 L nL
  have e1 : upd H a1 (exo a1 (adr K "NothingToUndo") none) a1 = some (exo a1 (adr K "NothingToUndo") none) := upd_same ..
  generalize upd H a1 (exo a1 (adr K "NothingToUndo") none) = H1 at *
  have s12 : Same H1 (upd H1 a2 (exo a2 (adr K "NothingToRedo") none)) := Same.new n2
  have e2 : upd H1 a2 (exo a2 (adr K "NothingToRedo") none) a2 = some (exo a2 (adr K "NothingToRedo") none) := upd_same ..
  generalize upd H1 a2 (exo a2 (adr K "NothingToRedo") none) = H2 at *
  have s23 : Same H2 (upd H2 L (.lst [.ref a1, .ref a2])) := Same.new nL
  have hL : upd H2 L (.lst [.ref a1, .ref a2]) L = some (.lst [.ref a1, .ref a2]) := upd_same ..
  generalize upd H2 L (.lst [.ref a1, .ref a2]) = H3 at *
  intro D1 n3
  refine end_codes hL (.inr (s23 _ _ (s12 _ _ e1))) (.inr (s23 _ _ e2)) n3 fun H4 r4 => ?_
  obtain ⟨ls, hl, hD1, hls, s34⟩ := r4
  obtain ⟨l0, l1, rfl⟩ : ∃ l0 l1, ls = [l0, l1] := by
    match ls, hl with
    | [a, b], _ => exact ⟨a, b, rfl⟩
  intro p0 m0 p1 m1 p2 m2
  have s45 : Same H4 (upd H4 p0 (.lst [.int 31])) := Same.new m0
  have g0 : upd H4 p0 (.lst [.int 31]) p0 = some (.lst [.int 31]) := upd_same ..
  generalize upd H4 p0 (.lst [.int 31]) = H5 at *
  have s56 : Same H5 (upd H5 p1 (.lst [.int 32])) := Same.new m1
  have g1 : upd H5 p1 (.lst [.int 32]) p1 = some (.lst [.int 32]) := upd_same ..
  generalize upd H5 p1 (.lst [.int 32]) = H6 at *
  have s67 : Same H6 (upd H6 p2 (.lst [.ref p0, .ref p1])) := Same.new m2
  have g2 : upd H6 p2 (.lst [.ref p0, .ref p1]) p2 = some (.lst [.ref p0, .ref p1]) := upd_same ..
  generalize upd H6 p2 (.lst [.ref p0, .ref p1]) = H7 at *
  have s57 := s56.trans s67
  have s47 := s45.trans s57
  have k0 := (hls 0 l0 rfl).2
  have k1 := (hls 1 l1 rfl).2
  refine ⟨_, _, .lst (.inl (.inl (s47 _ _ hD1))) (.cons (.lst (.inl (.inl (s47 _ _ k0))) (.cons (.int _) .nil)) (.cons (.lst (.inl (.inl (s47 _ _ k1))) (.cons (.int _) .nil)) .nil)),
    .lst (.inl (.inl g2)) (.cons (.lst (.inl (.inl (s57 _ _ g0))) (.cons (.int _) .nil)) (.cons (.lst (.inl (.inl (s67 _ _ g1))) (.cons (.int _) .nil)) .nil)), data2, data2, ?_⟩
  have s37 := s34.trans s47
  have s27 := s23.trans s37
  have hL7 := s37 _ _ hL
  have i1 : IsE0 H7 a1 (adr K "NothingToUndo") := .inr (s27 _ _ (s12 _ _ e1))
  have i2 : IsE0 H7 a2 (adr K "NothingToRedo") := .inr (s27 _ _ e2)
  refine .inl ⟨by rw [show ((31 + 0 : Nat) : Int) = 31 from rfl, show ((31 + 1 : Nat) : Int) = 32 from rfl, eqv2] <;> rfl, ?_⟩
  simp [tNext, tSeq, tDrop, tApp, tCons, tNil, tVar, rAppend, hL7]
  intro a3 n8
  have s78 : Same H7 (upd H7 a3 (exo a3 (adr K "SpreadError") none)) := Same.new n8
  have e3 : upd H7 a3 (exo a3 (adr K "SpreadError") none) a3 = some (exo a3 (adr K "SpreadError") none) := upd_same ..
  generalize upd H7 a3 (exo a3 (adr K "SpreadError") none) = H8 at *
  have hL8 := s78 _ _ hL7
  have j1 := isE0_upd (o := .lst [.ref a1, .ref a2, .ref a3]) (isE0_same i1 s78) hL8
  have j2 := isE0_upd (o := .lst [.ref a1, .ref a2, .ref a3]) (isE0_same i2 s78) hL8
  have j3 : IsE0 (upd H8 L (.lst [.ref a1, .ref a2, .ref a3])) a3 (adr K "SpreadError") := isE0_upd (.inr e3) hL8
  have hL9 : upd H8 L (.lst [.ref a1, .ref a2, .ref a3]) L = some (.lst [.ref a1, .ref a2, .ref a3]) := upd_same ..
  refine ⟨_, hL8, by simp [sz_eq], ?_⟩
  rw [show [V.ref a1, V.ref a2] ++ [V.ref a3] = [V.ref a1, V.ref a2, V.ref a3] from rfl]
  generalize upd H8 L (.lst [.ref a1, .ref a2, .ref a3]) = H9 at *
  have lV := vw_lst hL9
  simp [tRet, tAndV, tCB, tCons, tNil, tLc_eq, iAny, tVar, dIter, lV, tOp, tCall, tC, dIx, atI, ixN, tLst, rAll]
  intro D2 n9
  refine end_all (as := [a1, a2, a3]) hL9 rfl (fun a ha => ?_) n9 fun HA sA hA => ?_
  · simp only [List.mem_cons, List.not_mem_nil, or_false] at ha
    rcases ha with rfl | rfl | rfl
    · exact ⟨_, by decide +kernel, j1⟩
    · exact ⟨_, by decide +kernel, j2⟩
    · exact ⟨_, by decide +kernel, j3⟩
  have hLA := sA _ _ hL9
  have lA := vw_lst hLA
  refine ⟨[true, true, true], .inl (.inl hA), ?_⟩
  rw [if_neg (by decide)]
  simp only [lA]
  refine ⟨.ref a3, by simp, ?_⟩
  show ∃ x, x ∈ names34 ∧ IsE0 HA a3 (adr K x) ∧ _
  refine ⟨"SpreadError", by decide +kernel, isE0_same j3 sA, fun l HB sB nB hB p np => ?_⟩
  rw [codes3.2.2] at hB
  refine ⟨_, _, .lst (.inl (.inl ((Same.new np) _ _ hB))) .nil, .lst (.inl (.inl (upd_same ..))) .nil, data0, data0, ?_⟩
  rw [eqv0]
  exact q _
end K1
end L2
set_option maxHeartbeats 4000000
namespace L2
namespace K1
open PySem PySem.Spec PyProof.Rows Q1 TL
variable {P : Program} {w : World} {K : PySem.W.Frag} {mg : Str → Option Value} {base : Heap} {f : Addr} {fd : FuncData}
/-- what the law is asked: a list of at most 63 ints, all else as it may be -/
def spLaw (K : PySem.W.Frag) : Sp := fun vs H Q _ => ∃ (a : Addr) (ns : List Int), vs = [.ref a] ∧ SqL K H a (ns.map V.int) ∧ ns.length ≤ 63 ∧ ∀ H', Q (.bl true) H'
theorem ok_law {fR fB fF fC fW fO fD fI fP : Addr} {fdR fdB fdF fdC fdW fdO fdD fdI fdP : FuncData} (D : DefAt K mg "law" (topS 48) f fd) (T : Blt mg) (CE : Clss K mg) (B3 : Bare3 K)
    (C_law_right : Cal P w K mg base 3 "_law_right" fR fdR ["_law_some", "_law_noted"] (spRight K))
    (C_law_bare : Cal P w K mg base 3 "_law_bare" fB fdB [] (spBare K)) (C_law_first : Cal P w K mg base 3 "_law_first" fF fdF ["_law_thing"] (spErrs K)) (C_law_called : Cal P w K mg base 3 "_law_called" fC fdC ["_law_thing"] (spErrs K))
    (C_law_word : Cal P w K mg base 3 "_law_word" fW fdW ["_law_purse_here"] spWord) (C_law_one_of : Cal P w K mg base 3 "_law_one_of" fO fdO ["_law_purse_here", "_law_some"] spOneOf)
    (C_law_code : Cal P w K mg base 3 "_law_code" fD fdD ["_law_error"] (spCode K)) (C_law_is_error : Cal P w K mg base 3 "_law_is_error" fI fdI ["_law_error"] (spIsErr K))
    (C_law_purses : Cal P w K mg base 3 "_law_purses" fP fdP ["_law_script", "_law_few"] (spPurses K)) : FnG P w K mg base 4 f fd ["_law_script"] (spLaw K) := by
  refine fun_ok D.F sclaw (fun vs H Q E h => ?_) (fun cdv A outer s H vs Q E hr hgd h => ?_)
  · obtain ⟨_, _, rfl, _⟩ := h
    rfl
  · obtain ⟨a, ns, rfl, hs, hn, q⟩ := h
    obtain ⟨tB, hB, qB⟩ := part0 (outer := outer) (H0 := H) (E := E) hr hgd T C_law_right C_law_bare C_law_first C_law_called C_law_word C_law_one_of
    obtain ⟨tT, hT, qT⟩ := part_end (outer := outer) (H0 := H) (E := E) hr hgd T CE B3 C_law_code C_law_is_error
    refine ⟨_, (pss_cons (ps_for PassesOwn.never rfl (pi_any (pe_callC C_law_purses hr hgd (by rfl) (pa_cons (pv 0) (pa_cons pe_int pa_nil)))) (pg_name (i := 1) sclaw.nd rfl (Or.inl rfl)) hB) hT), ?_⟩
    simp only [tSeq, tFor_eq, iAny, tCall, tCons, tVar, tNil, tC]
    refine ⟨_, by rfl, ?_⟩
    show ∃ ns : List Int, SqL K H a (ns.map V.int) ∧ _
    refine ⟨ns, hs, hn, by decide, fun L H1 n n1 n2 n3 s01 nL pL => ?_⟩
    have n4 : n = 1 := by omega
    subst n4
    obtain ⟨ps, hl, _, hp, hL⟩ := pL
    obtain ⟨p, rfl⟩ : ∃ p, ps = [p] := by
      match ps, hl with
      | [b], _ => exact ⟨b, rfl⟩
    have pp := hp p (by simp)
    have lV := vw_lst hL
    simp only [dIter, lV]
    refine loop_lst [.ref p] (fun i σ H' => H' L = some (.lst [.ref p]) ∧ ((i = 0 ∧ H' = H1 ∧ σ = [some (.ref a), none, none, none, none, none, none, none, none, none, none]) ∨
      (i = 1 ∧ ∃ s0 s1 s2 s3 s4 s5 s6 s7 s8 s9 s10, σ = [s0, s1, s2, s3, s4, s5, s6, s7, s8, s9, s10]))) ⟨hL, .inl ⟨rfl, rfl, rfl⟩⟩ (fun i σ H' _ h => vw_lst h.1) ?_ ?_
    · rintro i x σ H' hx ⟨h1, h2⟩
      rcases h2 with ⟨rfl, rfl, rfl⟩ | ⟨rfl, _⟩
      · cases hx
        show tB _ [some (.ref a), some (.ref p), none, none, none, none, none, none, none, none, none] H'
        exact qB _ H' _ _ _ _ _ _ _ _ _ _ p L pp.1 h1 fun H2 t2 t3 t4 t5 t6 t7 t8 h3 => ⟨h3, .inr ⟨rfl, _, _, _, _, _, _, _, _, _, _, _, rfl⟩⟩
      · simp at hx
    · rintro σ H' ⟨h1, h2⟩
      rcases h2 with ⟨h, _⟩ | ⟨_, s0, s1, s2, s3, s4, s5, s6, s7, s8, s9, s10, rfl⟩
      · simp at h
      · exact qT _ H' _ _ _ _ _ _ _ _ _ _ _ fun H2 => q H2
end K1
end L2
set_option maxHeartbeats 4000000
namespace L2
namespace K1
open PySem PySem.Spec PyProof.Rows Q1
open PySem.W (Frag nsIn findIn kitOne excIn keepIn)
/-- the goal that the head leaves, from the law's promise with guards told -/
theorem walk_ofG {l : PySem.W.OpenLaw} {n k : Nat} {q : Program} {loose : List Str} {XP : (Str → Option Value) → Heap → Prop} {YP : World → Heap → Prop} {d : DefRec} {K : Params → Frag} {x : Str} {sp : Frag → Sp}
    (hn : l.most = some n) (hz : n ≤ sizeLine) (hdf : d.params.defaults = []) (hr : Room k callerA) (hY : ∀ w h, YP w h → (K w.params).In h)
    (F : ∀ w mg fa h, (K w.params).In h → h.Ns mainGlobals mg → mg d.name = some (.ref fa) → ∃ fd : FuncData, (∀ s u, BindsTo s fd ⟨[u], []⟩ [(x, u)]) ∧ ∀ base, (K w.params).In base → base.Ns mainGlobals mg → FnG l.prog w (K w.params) mg base k fa fd [x] (sp (K w.params)))
    (hsp : ∀ (w : World) (H : Hp) (a : Addr) (ns : List Int), ns.length ≤ n → SqL (K w.params) H a (ns.map V.int) → sp (K w.params) [.ref a] H (fun v _ => v = .bl true) fun _ _ _ => False) :
    PySem.W.WalkO q loose XP YP l.row.toRowW d [] (fun f vs => PySem.call f vs) :=
  Att.attach_call hn hdf fun w s0 s1 mg mb fa o pm cd doc a vs ns G Y _ _ _ hmg hobj hints hlen hg => by
    obtain ⟨fd, hb, hF⟩ := F w mg fa _ (hY w _ Y) G.T.g hmg
    exact law_callG (hY w _ Y) G.T.g G.T.b G.T.builtins G.T.nolimit hg hobj hints (Nat.le_trans hlen hz) hr hF hb fun H _ hS => hsp w H a ns hlen hS
/-! ### checks of the written part, for the kernel -/
def bltL : List Str := ["sum", "int", "max", "min", "len", "range", "repr", "isinstance", "all", "ValueError", "list", "dict", "tuple", "super"]
def bltB (K : Frag) : Bool := bltL.all fun x => nsIn K mainGlobals x == some none
theorem bltB_ok {K : Frag} {h : Heap} {mg : Str → Option Value} (X : K.In h) (G : h.Ns mainGlobals mg) (q : bltB K = true) : Blt mg ∧ mg "super" = none := by
  have go : ∀ x ∈ bltL, mg x = none := fun x hx => PySem.W.mg_none_of X G (beq_iff_eq.mp (List.all_eq_true.mp q x hx))
  exact ⟨⟨go _ (by decide +kernel), go _ (by decide +kernel), go _ (by decide +kernel), go _ (by decide +kernel), go _ (by decide +kernel), go _ (by decide +kernel), go _ (by decide +kernel), go _ (by decide +kernel), go _ (by decide +kernel), go _ (by decide +kernel), go _ (by decide +kernel), go _ (by decide +kernel), go _ (by decide +kernel)⟩, go _ (by decide +kernel)⟩
def errAll (file : Str) (K : Frag) : Bool := names1.all fun x => isAt K x && errKB K (adr K x) && iniB file K (adr K x) (initAt K (adr K x))
theorem errAll_ok {P : Program} {K : Frag} {h : Heap} {mg : Str → Option Value} (X : K.In h) (G : h.Ns mainGlobals mg) (su : mg "super" = none) (top : (P.main.scope.names.lookup ("super" : Str)).isSome = false) (q : errAll P.main.file K = true) : ErrAll P K mg := by
  refine ⟨su, top, fun x hx => ?_⟩
  have := List.all_eq_true.mp q x hx
  simp only [Bool.and_eq_true] at this
  obtain ⟨⟨h1, h2⟩, h3⟩ := this
  exact ⟨PySem.W.mg_of X G (isAt_ok h1), errKB_ok h2, _, iniB_ok h3⟩
def clsAll (K : Frag) : Bool := (names34.all fun x => isAt K x && errGB K (adr K x) && kitOne K (.ref (adr K x)) (.type "ValueError") == some true && names34.all fun y => kitOne K (.ref (adr K x)) (.ref (adr K y)) == some (isC x y)) &&
  names1.all fun x => findIn K (.ref (adr K x)) "value" == some none
theorem clsAll_ok {K : Frag} {h : Heap} {mg : Str → Option Value} (X : K.In h) (G : h.Ns mainGlobals mg) (q : clsAll K = true) : Clss K mg := by
  obtain ⟨q1, q2⟩ := Bool.and_eq_true_iff.mp q
  have go : ∀ x ∈ names34, isAt K x = true ∧ errGB K (adr K x) = true ∧ kitOne K (.ref (adr K x)) (.type "ValueError") = some true ∧ ∀ y ∈ names34, kitOne K (.ref (adr K x)) (.ref (adr K y)) = some (isC x y) := fun x hx => by
    have := List.all_eq_true.mp q1 x hx
    simp only [Bool.and_eq_true, beq_iff_eq] at this
    obtain ⟨⟨⟨h1, h2⟩, h3⟩, h4⟩ := this
    exact ⟨h1, h2, h3, fun y hy => beq_iff_eq.mp (List.all_eq_true.mp h4 y hy)⟩
  exact ⟨fun x hx => PySem.W.mg_of X G (isAt_ok (go x hx).1), fun x hx => errGB_ok (go x hx).2.1, fun x hx y hy => (go x hx).2.2.2 y hy, fun x hx => (go x hx).2.2.1, fun x hx => beq_iff_eq.mp (List.all_eq_true.mp q2 x hx)⟩
def bareB (K : Frag) : Bool := names3.all fun x => excIn K (adr K x) [.type "ValueError", .type "Exception", .type "BaseException", .type "object"] "ValueError.__new__" && keepIn K (.ref (adr K x))
theorem bareB_ok {K : Frag} (q : bareB K = true) : Bare3 K := by
  have go : ∀ x ∈ names3, _ := fun x hx => Bool.and_eq_true_iff.mp (List.all_eq_true.mp q x hx)
  exact ⟨fun x hx => (go x hx).1, fun x hx => (go x hx).2⟩
/-- a def of the text, from what the written part says -/
theorem def_mk {K : Frag} {h : Heap} {mg : Str → Option Value} {x : Str} {st : Stmt} {f : Addr} {oc : Value} {od an : Option Addr} {osl : Array (Option Value)} {kV doc pm cdv ct : Value} (X : K.In h) (G : h.Ns mainGlobals mg) (a : nsIn K mainGlobals x = some (some (.ref f)))
    (l : K.lookup f = some ⟨oc, od, .func (PySem.W.fnOf x x (defArgs st) (defBody st) (defScope st) .none kV doc pm an cdv ct), osl⟩) (c : PySem.W.codeIn K cdv x = true) (k : keepIn K (.ref f) = true) :
    DefAt K mg x st f (PySem.W.fnOf x x (defArgs st) (defBody st) (defScope st) .none kV doc pm an cdv ct) := ⟨fun_mk l c k, PySem.W.mg_of X G a⟩
theorem cal_mk {P : Program} {w : World} {K : Frag} {mg : Str → Option Value} {base : Heap} {j k : Nat} {x : Str} {st : Stmt} {f : Addr} {fd : FuncData} {ps : List Str} {sp : Sp} (D : DefAt K mg x st f fd) (F : FnG P w K mg base j f fd ps sp) (h : j ≤ k)
    (hb : ∀ (kV doc pm : Value) (an : Option Addr) (cdv ct : Value) (us : List Value), us.length = ps.length → bindArgs (PySem.W.fnOf x x (defArgs st) (defBody st) (defScope st) .none kV doc pm an cdv ct) ⟨us, []⟩ = pure (ps.zip us)) : Cal P w K mg base k x f fd ps sp :=
  ⟨F.mono h, D.g, D.F.kp, D.F.binds hb⟩
/-- the law's promise, from its defs and the checks -/
theorem all_ok {P : Program} {w : World} {K : Frag} {h : Heap} {mg : Str → Option Value} (X : K.In h) (G : h.Ns mainGlobals mg) (top : (P.main.scope.names.lookup ("super" : Str)).isSome = false)
    (q1 : bltB K = true) (q2 : errAll P.main.file K = true) (q3 : clsAll K = true) (q4 : bareB K = true)
    {f36 f37 f38 f39 f40 f41 f42 f43 f44 f45 f46 f47 f48 : Addr} {d36 d37 d38 d39 d40 d41 d42 d43 d44 d45 d46 d47 d48 : FuncData}
    (D36 : DefAt K mg "_law_purse" (topS 36) f36 d36) (D37 : DefAt K mg "_law_mixed" (topS 37) f37 d37) (D38 : DefAt K mg "_law_draw" (topS 38) f38 d38) (D39 : DefAt K mg "_law_purses" (topS 39) f39 d39) (D40 : DefAt K mg "_law_one_of" (topS 40) f40 d40)
    (D41 : DefAt K mg "_law_word" (topS 41) f41 d41) (D42 : DefAt K mg "_law_first" (topS 42) f42 d42) (D43 : DefAt K mg "_law_called" (topS 43) f43 d43) (D44 : DefAt K mg "_law_bare" (topS 44) f44 d44) (D45 : DefAt K mg "_law_code" (topS 45) f45 d45)
    (D46 : DefAt K mg "_law_is_error" (topS 46) f46 d46) (D47 : DefAt K mg "_law_right" (topS 47) f47 d47) (D48 : DefAt K mg "law" (topS 48) f48 d48) : ∀ base : Heap, FnG P w K mg base 4 f48 d48 ["_law_script"] (spLaw K) := by
  intro base
  obtain ⟨T, su⟩ := bltB_ok X G q1
  have TE : ErrAll P K mg := errAll_ok X G su top q2
  have CE := clsAll_ok X G q3
  have B3 := bareB_ok q4
  have C36 := cal_mk (k := 1) D36 (ok_purse (P := P) (w := w) (base := base) D36 T) (Nat.le_refl _) fun _ _ _ _ _ _ us hl => match us, hl with | [_, _], _ => rfl
  have C38 := cal_mk (k := 2) D38 (ok_draw (P := P) (w := w) (base := base) D38 D37 T) (Nat.le_refl _) fun _ _ _ _ _ _ us hl => match us, hl with | [_, _], _ => rfl
  have C39 := cal_mk (k := 3) D39 (ok_purses (P := P) (w := w) (base := base) D39 T C36) (by decide) fun _ _ _ _ _ _ us hl => match us, hl with | [_, _], _ => rfl
  have C40 := cal_mk (k := 3) D40 (ok_one_of (P := P) (w := w) (base := base) D40 T C38) (by decide) fun _ _ _ _ _ _ us hl => match us, hl with | [_, _], _ => rfl
  have C41 := cal_mk (k := 3) D41 (ok_word (P := P) (w := w) (base := base) D41 T C38) (by decide) fun _ _ _ _ _ _ us hl => match us, hl with | [_], _ => rfl
  have C42 := cal_mk (k := 3) D42 (ok_first (P := P) (w := w) (base := base) D42 TE) (by decide) fun _ _ _ _ _ _ us hl => match us, hl with | [_], _ => rfl
  have C43 := cal_mk (k := 3) D43 (ok_called (P := P) (w := w) (base := base) D43 TE) (by decide) fun _ _ _ _ _ _ us hl => match us, hl with | [_], _ => rfl
  have C44 := cal_mk (k := 3) D44 (ok_bare (P := P) (w := w) (base := base) D44 TE) (by decide) fun _ _ _ _ _ _ us hl => match us, hl with | [], _ => rfl
  have C45 := cal_mk (k := 2) D45 (ok_code (P := P) (w := w) (base := base) D45 T CE) (Nat.le_refl _) fun _ _ _ _ _ _ us hl => match us, hl with | [_], _ => rfl
  have C46 := cal_mk (k := 2) D46 (ok_is_error (P := P) (w := w) (base := base) D46 T CE) (Nat.le_refl _) fun _ _ _ _ _ _ us hl => match us, hl with | [_], _ => rfl
  have C47 := cal_mk (k := 3) D47 (ok_right (P := P) (w := w) (base := base) D47 T CE C45 C46) (by decide) fun _ _ _ _ _ _ us hl => match us, hl with | [_, _], _ => rfl
  exact ok_law D48 T CE B3 C47 C44 C42 C43 C41 C40 (C45.mono (by decide)) (C46.mono (by decide)) C39
end K1
end L2
open PySem PySem.W PyProof.Rows
namespace L2
namespace K1
open PySem.W (nsIn)
/-- the law's promise, from what the written part says of each def -/
theorem top_ok {w : World} {K : Frag} {h : Heap} {mg : Str → Option Value} {fa : Addr} (X : K.In h) (G : h.Ns mainGlobals mg) (hfa : mg "law" = some (.ref fa))
    (q1 : bltB K = true) (q2 : errAll PySem.Challenge.pw_kindgrants_k01_errors_made.main.file K = true) (q3 : clsAll K = true) (q4 : bareB K = true)
    {f36 : Addr} {oc36 : Value} {od36 an36 : Option Addr} {sl36 : Array (Option Value)} {kV36 dc36 pm36 cd36 ct36 : Value} (a36 : nsIn K mainGlobals "_law_purse" = some (some (.ref f36))) (l36 : K.lookup f36 = some ⟨oc36, od36, .func (fnOf "_law_purse" "_law_purse" (L2.defArgs (topS 36)) (L2.defBody (topS 36)) (L2.defScope (topS 36)) .none kV36 dc36 pm36 an36 cd36 ct36), sl36⟩) (c36 : codeIn K cd36 "_law_purse" = true) (k36 : keepIn K (.ref f36) = true)
    {f37 : Addr} {oc37 : Value} {od37 an37 : Option Addr} {sl37 : Array (Option Value)} {kV37 dc37 pm37 cd37 ct37 : Value} (a37 : nsIn K mainGlobals "_law_mixed" = some (some (.ref f37))) (l37 : K.lookup f37 = some ⟨oc37, od37, .func (fnOf "_law_mixed" "_law_mixed" (L2.defArgs (topS 37)) (L2.defBody (topS 37)) (L2.defScope (topS 37)) .none kV37 dc37 pm37 an37 cd37 ct37), sl37⟩) (c37 : codeIn K cd37 "_law_mixed" = true) (k37 : keepIn K (.ref f37) = true)
    {f38 : Addr} {oc38 : Value} {od38 an38 : Option Addr} {sl38 : Array (Option Value)} {kV38 dc38 pm38 cd38 ct38 : Value} (a38 : nsIn K mainGlobals "_law_draw" = some (some (.ref f38))) (l38 : K.lookup f38 = some ⟨oc38, od38, .func (fnOf "_law_draw" "_law_draw" (L2.defArgs (topS 38)) (L2.defBody (topS 38)) (L2.defScope (topS 38)) .none kV38 dc38 pm38 an38 cd38 ct38), sl38⟩) (c38 : codeIn K cd38 "_law_draw" = true) (k38 : keepIn K (.ref f38) = true)
    {f39 : Addr} {oc39 : Value} {od39 an39 : Option Addr} {sl39 : Array (Option Value)} {kV39 dc39 pm39 cd39 ct39 : Value} (a39 : nsIn K mainGlobals "_law_purses" = some (some (.ref f39))) (l39 : K.lookup f39 = some ⟨oc39, od39, .func (fnOf "_law_purses" "_law_purses" (L2.defArgs (topS 39)) (L2.defBody (topS 39)) (L2.defScope (topS 39)) .none kV39 dc39 pm39 an39 cd39 ct39), sl39⟩) (c39 : codeIn K cd39 "_law_purses" = true) (k39 : keepIn K (.ref f39) = true)
    {f40 : Addr} {oc40 : Value} {od40 an40 : Option Addr} {sl40 : Array (Option Value)} {kV40 dc40 pm40 cd40 ct40 : Value} (a40 : nsIn K mainGlobals "_law_one_of" = some (some (.ref f40))) (l40 : K.lookup f40 = some ⟨oc40, od40, .func (fnOf "_law_one_of" "_law_one_of" (L2.defArgs (topS 40)) (L2.defBody (topS 40)) (L2.defScope (topS 40)) .none kV40 dc40 pm40 an40 cd40 ct40), sl40⟩) (c40 : codeIn K cd40 "_law_one_of" = true) (k40 : keepIn K (.ref f40) = true)
    {f41 : Addr} {oc41 : Value} {od41 an41 : Option Addr} {sl41 : Array (Option Value)} {kV41 dc41 pm41 cd41 ct41 : Value} (a41 : nsIn K mainGlobals "_law_word" = some (some (.ref f41))) (l41 : K.lookup f41 = some ⟨oc41, od41, .func (fnOf "_law_word" "_law_word" (L2.defArgs (topS 41)) (L2.defBody (topS 41)) (L2.defScope (topS 41)) .none kV41 dc41 pm41 an41 cd41 ct41), sl41⟩) (c41 : codeIn K cd41 "_law_word" = true) (k41 : keepIn K (.ref f41) = true)
    {f42 : Addr} {oc42 : Value} {od42 an42 : Option Addr} {sl42 : Array (Option Value)} {kV42 dc42 pm42 cd42 ct42 : Value} (a42 : nsIn K mainGlobals "_law_first" = some (some (.ref f42))) (l42 : K.lookup f42 = some ⟨oc42, od42, .func (fnOf "_law_first" "_law_first" (L2.defArgs (topS 42)) (L2.defBody (topS 42)) (L2.defScope (topS 42)) .none kV42 dc42 pm42 an42 cd42 ct42), sl42⟩) (c42 : codeIn K cd42 "_law_first" = true) (k42 : keepIn K (.ref f42) = true)
    {f43 : Addr} {oc43 : Value} {od43 an43 : Option Addr} {sl43 : Array (Option Value)} {kV43 dc43 pm43 cd43 ct43 : Value} (a43 : nsIn K mainGlobals "_law_called" = some (some (.ref f43))) (l43 : K.lookup f43 = some ⟨oc43, od43, .func (fnOf "_law_called" "_law_called" (L2.defArgs (topS 43)) (L2.defBody (topS 43)) (L2.defScope (topS 43)) .none kV43 dc43 pm43 an43 cd43 ct43), sl43⟩) (c43 : codeIn K cd43 "_law_called" = true) (k43 : keepIn K (.ref f43) = true)
    {f44 : Addr} {oc44 : Value} {od44 an44 : Option Addr} {sl44 : Array (Option Value)} {kV44 dc44 pm44 cd44 ct44 : Value} (a44 : nsIn K mainGlobals "_law_bare" = some (some (.ref f44))) (l44 : K.lookup f44 = some ⟨oc44, od44, .func (fnOf "_law_bare" "_law_bare" (L2.defArgs (topS 44)) (L2.defBody (topS 44)) (L2.defScope (topS 44)) .none kV44 dc44 pm44 an44 cd44 ct44), sl44⟩) (c44 : codeIn K cd44 "_law_bare" = true) (k44 : keepIn K (.ref f44) = true)
    {f45 : Addr} {oc45 : Value} {od45 an45 : Option Addr} {sl45 : Array (Option Value)} {kV45 dc45 pm45 cd45 ct45 : Value} (a45 : nsIn K mainGlobals "_law_code" = some (some (.ref f45))) (l45 : K.lookup f45 = some ⟨oc45, od45, .func (fnOf "_law_code" "_law_code" (L2.defArgs (topS 45)) (L2.defBody (topS 45)) (L2.defScope (topS 45)) .none kV45 dc45 pm45 an45 cd45 ct45), sl45⟩) (c45 : codeIn K cd45 "_law_code" = true) (k45 : keepIn K (.ref f45) = true)
    {f46 : Addr} {oc46 : Value} {od46 an46 : Option Addr} {sl46 : Array (Option Value)} {kV46 dc46 pm46 cd46 ct46 : Value} (a46 : nsIn K mainGlobals "_law_is_error" = some (some (.ref f46))) (l46 : K.lookup f46 = some ⟨oc46, od46, .func (fnOf "_law_is_error" "_law_is_error" (L2.defArgs (topS 46)) (L2.defBody (topS 46)) (L2.defScope (topS 46)) .none kV46 dc46 pm46 an46 cd46 ct46), sl46⟩) (c46 : codeIn K cd46 "_law_is_error" = true) (k46 : keepIn K (.ref f46) = true)
    {f47 : Addr} {oc47 : Value} {od47 an47 : Option Addr} {sl47 : Array (Option Value)} {kV47 dc47 pm47 cd47 ct47 : Value} (a47 : nsIn K mainGlobals "_law_right" = some (some (.ref f47))) (l47 : K.lookup f47 = some ⟨oc47, od47, .func (fnOf "_law_right" "_law_right" (L2.defArgs (topS 47)) (L2.defBody (topS 47)) (L2.defScope (topS 47)) .none kV47 dc47 pm47 an47 cd47 ct47), sl47⟩) (c47 : codeIn K cd47 "_law_right" = true) (k47 : keepIn K (.ref f47) = true)
    {f48 : Addr} {oc48 : Value} {od48 an48 : Option Addr} {sl48 : Array (Option Value)} {kV48 dc48 pm48 cd48 ct48 : Value} (a48 : nsIn K mainGlobals "law" = some (some (.ref f48))) (l48 : K.lookup f48 = some ⟨oc48, od48, .func (fnOf "law" "law" (L2.defArgs (topS 48)) (L2.defBody (topS 48)) (L2.defScope (topS 48)) .none kV48 dc48 pm48 an48 cd48 ct48), sl48⟩) (c48 : codeIn K cd48 "law" = true) (k48 : keepIn K (.ref f48) = true) :
    ∃ fd : FuncData, (∀ (s : Shared) (u : Value), BindsTo s fd ⟨[u], []⟩ [("_law_script", u)]) ∧ ∀ base : Heap, K.In base → base.Ns mainGlobals mg → Q1.FnG PySem.Challenge.pw_kindgrants_k01_errors_made w K mg base 4 fa fd ["_law_script"] (spLaw K) := by
  have e := hfa.symm.trans (mg_of X G a48)
  cases e
  exact ⟨fnOf "law" "law" (L2.defArgs (topS 48)) (L2.defBody (topS 48)) (L2.defScope (topS 48)) .none kV48 dc48 pm48 an48 cd48 ct48, fun s v => .of_eq rfl, fun base _ _ => all_ok X G (by decide +kernel) q1 q2 q3 q4 (def_mk X G a36 l36 c36 k36) (def_mk X G a37 l37 c37 k37) (def_mk X G a38 l38 c38 k38) (def_mk X G a39 l39 c39 k39) (def_mk X G a40 l40 c40 k40) (def_mk X G a41 l41 c41 k41) (def_mk X G a42 l42 c42 k42) (def_mk X G a43 l43 c43 k43) (def_mk X G a44 l44 c44 k44) (def_mk X G a45 l45 c45 k45) (def_mk X G a46 l46 c46 k46) (def_mk X G a47 l47 c47 k47) (def_mk X G a48 l48 c48 k48) base⟩
end K1
end L2
set_option maxHeartbeats 0 in
theorem PySem.Challenge.cw_kindgrants_k01_errors_made_holds : PySem.Challenge.rw_kindgrants_k01_errors_made.Holds := by
  w_on; o_law; k_headL; (case hw => w_witness2)
  k_fill
  refine L2.K1.walk_ofG (l := PySem.Challenge.rw_kindgrants_k01_errors_made) (n := 63) (k := 4) (x := "_law_script") (sp := L2.K1.spLaw) rfl (by decide) rfl ⟨rfl, by decide, by decide⟩ (fun w h Y => PySem.W.kIn_of Y) ?F (fun _ _ a ns hl hS => ⟨a, ns, rfl, hS, hl, fun _ => rfl⟩)
  case F =>
    intro w mg fa h KX G hmg
    have q1 : L2.K1.bltB (L2.KOf KX) = true := by kernel_rfl
    have q2 : L2.K1.errAll PySem.Challenge.pw_kindgrants_k01_errors_made.main.file (L2.KOf KX) = true := by kernel_rfl
    have q3 : L2.K1.clsAll (L2.KOf KX) = true := by kernel_rfl
    have q4 : L2.K1.bareB (L2.KOf KX) = true := by kernel_rfl
    refine' L2.K1.top_ok KX G hmg q1 q2 q3 q4 ?a36 ?l36 ?c36 ?k36 ?a37 ?l37 ?c37 ?k37 ?a38 ?l38 ?c38 ?k38 ?a39 ?l39 ?c39 ?k39 ?a40 ?l40 ?c40 ?k40 ?a41 ?l41 ?c41 ?k41 ?a42 ?l42 ?c42 ?k42 ?a43 ?l43 ?c43 ?k43 ?a44 ?l44 ?c44 ?k44 ?a45 ?l45 ?c45 ?k45 ?a46 ?l46 ?c46 ?k46 ?a47 ?l47 ?c47 ?k47 ?a48 ?l48 ?c48 ?k48
    (case a36 => k_is); (case l36 => k_is); (case c36 => k_is); (case k36 => k_is)
    (case a37 => k_is); (case l37 => k_is); (case c37 => k_is); (case k37 => k_is)
    (case a38 => k_is); (case l38 => k_is); (case c38 => k_is); (case k38 => k_is)
    (case a39 => k_is); (case l39 => k_is); (case c39 => k_is); (case k39 => k_is)
    (case a40 => k_is); (case l40 => k_is); (case c40 => k_is); (case k40 => k_is)
    (case a41 => k_is); (case l41 => k_is); (case c41 => k_is); (case k41 => k_is)
    (case a42 => k_is); (case l42 => k_is); (case c42 => k_is); (case k42 => k_is)
    (case a43 => k_is); (case l43 => k_is); (case c43 => k_is); (case k43 => k_is)
    (case a44 => k_is); (case l44 => k_is); (case c44 => k_is); (case k44 => k_is)
    (case a45 => k_is); (case l45 => k_is); (case c45 => k_is); (case k45 => k_is)
    (case a46 => k_is); (case l46 => k_is); (case c46 => k_is); (case k46 => k_is)
    (case a47 => k_is); (case l47 => k_is); (case c47 => k_is); (case k47 => k_is)
    (case a48 => k_is); (case l48 => k_is); (case c48 => k_is); (case k48 => k_is)
