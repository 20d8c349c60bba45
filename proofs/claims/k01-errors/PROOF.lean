import PyProof.Rows.All
import Wide.All
import OpenK.AllK
import Wide.FinOn
import HandS.ForMost
import HandS.ForExc
import HandS.ExcInit
import HandS.ExcSuper
import HandS.Defaults
import HandS.ExcOwn
import HandS.ExcIs
import HandS.ExcField
import HandS.IsInst
import HandS.ExcValue
import KE.KExcSuper
import KE.KExcIs
import HandS.HeadEnd
import HandS.More
import KE.KDictKeyed
import KE.SortData
import KE.DataCmp
import PyProof.ReprReads
import HandS.Deep
import HandS.TupAny
import HandS.DictComp
import HandS.Style
import HandS.Flow
import HandS.WideBits
import HandS.Words
import HandS.Ends
import HandS.HeadHook1
import KE.KxText
import PyProof.ReprLen
import KE.KSuper
import HandS.HeadHook2
import HandS.Head0
import HandS.Head1
import HandS.Head2
import PySem.Challenge.RW_postways_k01_errors_made
set_option Elab.async false
set_option linter.all false
set_option maxRecDepth 100000
set_option maxHeartbeats 0
/-! E1: __init__ of an own error class: super().__init__(); self.value = value. -/
namespace VE
open PySem PySem.W PySem.Calls PySem.Spec PyProof.Rows L2

abbrev iBody (p0 p1 p2 p3 p4 p5 p6 p7 p8 : Pos) : List Stmt :=
  [.Expr (.Call (.Attribute (.Call (.Name "super" p0) [] [] p1) "__init__" p2) [] [] p3) p4, .Assign [.Attribute (.Name "self" p5) "value" p6] (.Name "value" p7) p8]
abbrev iParams (q1 q2 : Pos) (df : Expr) : Arguments := { posonlyargs := [], args := [⟨"self", none, q1⟩, ⟨"value", none, q2⟩], vararg := none, kwonlyargs := [], kw_defaults := [], kwarg := none, defaults := [df] }
/-- what the written part says of an own error class at C with such an __init__ at f -/
structure ErrI (P : Program) (K : PySem.W.Frag) (mg : Str → Option Value) (C f : Addr) (fd : FuncData) : Prop where
  cls : OexC K C
  fn : ∃ (qual : Str) (q1 q2 : Pos) (df : Expr) (scope : Scope) (cc cda Td : Addr) (kV doc pm ct : Value) (To : Obj) (tn : Nat) (an : Option Addr) (p0 p1 p2 p3 p4 p5 p6 p7 p8 : Pos) (oc : Value) (od : Option Addr) (osl : Array (Option Value))
    (ccl : Value) (cdd : Option Addr) (vs : Array Value) (ccs : Array (Option Value)) (file : Str) (tf : Tok) (cl : Value) (cld : Option Addr) (csl : Array (Option Value)) (cdD : ClassData),
    (p2.endLine == p3.line) = true ∧ fd = fnX "__init__" qual (iParams q1 q2 df) (iBody p0 p1 p2 p3 p4 p5 p6 p7 p8) scope [("__class__", cc)] (.ref Td) kV doc pm an (.ref cda) ct ∧ K.lookup f = some ⟨oc, od, .func fd, osl⟩ ∧ codeIn K (.ref cda) qual = true ∧
    K.lookup Td = some To ∧ To.data = .seq [Value.none].toArray tn ∧
    scope.kind = .function ∧ scope.isCoroutine = false ∧ scope.isGenerator = false ∧ (∀ x ∈ scope.names, x.2 ≠ .cell) ∧
    scope.names.lookup ("super" : Str) = some .globalImplicit ∧ scope.names.lookup ("__class__" : Str) = some .free ∧ scope.names.lookup ("self" : Str) = some .local ∧ scope.names.lookup ("value" : Str) = some .local ∧
    K.lookup cda = some ⟨ccl, cdd, .fields vs, ccs⟩ ∧ vs[2]? = some (.str file tf) ∧ ((P.main.file : Str) == file) = true ∧
    K.lookup cc = some ⟨cl, cld, .cell (some (.ref C)), csl⟩ ∧ clsIn K C = some cdD ∧ mroIn K C (.ref C) = some true
  noSuper : mg "super" = none
  top : (P.main.scope.names.lookup ("super" : Str)).isSome = false
  third : nsIn K cStatics "thirdparty.any" = some none
  sup : ks_superIn K C C "__init__" = some (some (.builtin "ValueError.__init__"))
  ve : subIn K (.ref C) (.type "ValueError") = some true
  noV : findIn K (.ref C) "value" = some none
  kp : keepIn K (.ref f) = true

def spInit (C : Addr) : Sp := fun vs H Q _ => ∃ (a : Addr) (y : V), vs = [.ref a, y] ∧ H a = some (exo a C none) ∧ ∀ dx, H dx = none → dx ≠ a → Q .non (upd (upd H dx (exd dx [("value", y)])) a (exo a C (some dx)))

theorem ldL {M : Model} {A : Around} {E : Value → Shared → Prop} {s : Shared} {env : Env} {m : Str → Option Value} {x : Str} {pos : Pos} {v : Value} {Q : Value → Shared → Prop} (hk : env.scope.kind = .function) (hl : env.kindOf x = some .local)
    (hn : s.heap.Ns env.locals m) (hv : m x = some v) (h : Q v s) (hd : (x == ("__debug__" : Str)) = false := by decide) : wpAny M A (eval (.Name x pos) env) Q E s := wpAny_Name (wpAny_loadName_local hk hl hn hv h) hd

theorem he_super {env : PySem.Env} {p0 p1 p2 p3 : Pos} (h : (p2.endLine == p3.line) = true) : eval (.Call (.Attribute (.Call (.Name "super" p0) [] [] p1) "__init__" p2) [] [] p3) env = (do
      let ov ← attributeBase (.Call (.Name "super" p0) [] [] p1) "__init__" env (eval (.Call (.Name "super" p0) [] [] p1) env)
      standAt p2.atName
      let (f, first) ← holding [ov] (getMethod ov "__init__" (do return (← importBound (.Call (.Name "super" p0) [] [] p1) env).getD true))
      callWith p3 f first (backTo p3 (starEach [] env)) []) := by
  rw [show eval (.Call (.Attribute (.Call (.Name "super" p0) [] [] p1) "__init__" p2) [] [] p3) env = (do
      let ov ← attributeBase (.Call (.Name "super" p0) [] [] p1) "__init__" env (eval (.Call (.Name "super" p0) [] [] p1) env)
      standAt p2.atName
      methodCall (.Call (.Name "super" p0) [] [] p1) "__init__" p2 p3 env ov 0 (backTo p3 (starEach [] env)) []) from rfl]
  unfold methodCall methodCallPos
  simp only [h, Bool.or_true, if_true, pure_bind]
  rfl
section
variable {P : Program} {w : World} {K : PySem.W.Frag} {mg : Str → Option Value} {base : Heap} {C f a : Addr} {fd : FuncData} {k : Nat}
/-- the heap behind it -/
theorem init_code {A : Around} {s : Shared} {args : Args} {R : Result → Shared → Prop} {t1 : Addr} {u : Value} (T : ErrI P K mg C f fd) (hd : A.depth < recursionLimit) (M : Mod K mg base) (bs : ∀ b o, base.get? b = some o → s.heap.get? b = some o) (na : base.get? a = none)
    (hb : BindsTo s fd args [("self", .ref a), ("value", u)]) (ha : s.heap.get? a = some (PySem.HandSPX.excO C t1))
    (hq : ∀ (h' : Heap) (tk : Nat) (dx t2 : Addr), (∀ b o, b ≠ a → s.heap.get? b = some o → h'.get? b = some o) → s.heap.objs.size ≤ dx → h'.get? a = some { cls := .ref C, dict := some dx, data := .fields #[.ref t2, .none, .none, .none, .bool false, .none] } →
      h'.Ns1 dx (fun y => if y = ("value" : Str) then some u else none) → R (.ok (.ret .none)) { s with heap := h', toks := tk }) :
    codeAny (model P w) A (.call (.ref f) args) R s := by
  obtain ⟨qual, q1, q2, df, scope, cc, cda, Td, kV, doc, pm, ct, To, tn, an, p0, p1, p2, p3, p4, p5, p6, p7, p8, oc, od, osl, ccl, cdd, vs, ccs, file, tf, cl, cld, csl, cdD, hline, rfl, lk, hcd, _, _, hk, hco, hgen, hcell, hks, hkc, hka, hkv, hcode, hvs, hfile, hcc, hD, hsub⟩ := T.fn
  obtain ⟨nm, q, N, cbs, bm, sn, sub, ab, col, dd, k0, k1, k2, k3, k5, hC, hbm⟩ := T.cls.cls
  have hcl : clsIn K C = some { name := nm, bases := cbs, mro := .ref C :: bm, ns := N, qualname := q, hasDict := true, slotNames := sn, subclasses := sub, abstract := ab, collection := col, hasDel := false } := by unfold clsIn; rw [hC] <;> rfl
  have X0 : K.In s.heap := M.kin.keeps bs
  have lim : s.heap.NoLimit := M.nolimit.keeps bs
  obtain ⟨mb, hmb, hmb2⟩ := M.blt
  obtain ⟨hp0, g, d, t, os⟩ := s
  have haL : a < hp0.objs.size := Heap.lt_size ha
  refine ks_codeAny_call_defAt (body := iBody p0 p1 p2 p3 p4 p5 p6 p7 p8) (binds := [("self", .ref a), ("value", u)]) hd (X0 _ _ lk) rfl lim (codeRec_of X0 hcd) rfl hb hcell (by
    intro x hx
    match x, hx with
    | _, .head _ => exact hka
    | _, .tail _ (.head _) => exact hkv) (fun h₀ hns kp0 => ?_) hco hgen hk
  have X1 : K.In h₀ := X0.keeps kp0
  have bs1 : ∀ b o, base.get? b = some o → h₀.get? b = some o := fun b o e => kp0 b o (bs b o e)
  have ha1 := kp0 _ _ ha
  refine ks_wpAt_execs_cons (ks_wpAt_Expr_any (ks_wpAt_MethodCall ?_ (he_super hline)) (hi := by first | rfl | (show interactive _ = false; unfold interactive; simp [callEnv, newEnv, hk]) ))
  obtain ⟨oD, hD1, hD2⟩ : ∃ oD, h₀.get? C = some oD ∧ oD.data = .cls { name := nm, bases := cbs, mro := .ref C :: bm, ns := N, qualname := q, hasDict := true, slotNames := sn, subclasses := sub, abstract := ab, collection := col, hasDel := false } := ⟨_, X1 _ _ hC, rfl⟩
  refine ks_wpAt_super_base (env := callEnv _ _ _) (f := f) (cc := cda) hks hkc (by decide) rfl (X1 _ _ lk) rfl rfl rfl (X1 _ _ hcode) rfl hvs hfile T.top ?_
  refine ks_loadName_global hk hks (loadGlobal_builtin (M.glob.keeps bs1) T.noSuper (hmb.keeps bs1) ((hmb2 _ (by decide +kernel)).trans (show bootBuiltins "super" = some (.type "super") by first | boot_by_name | rfl | kernel_rfl)) ⟨rfl, ?_⟩)
  refine wpAny_loadName_free hk hkc rfl ⟨_, X1 _ _ hcc, rfl⟩ ?_
  refine wpAny_loadName_local hk hka hns (v := .ref a) rfl ?_
  refine ks_wpAny_isType_cls hD1 hD2 ⟨rfl, ks_wpAny_call_super hD1 hD2 ha1 rfl (fun c e => nomatch e) (looks_mroIn X1 hsub) (fun h1 e1 kp1 => ?_)⟩
  have X2 : K.In h1 := X1.keeps kp1
  have ha2 := kp1 _ _ ha1
  have I2 : InstAt h1 a (PySem.HandSPX.excO C t1) C none := ⟨ha2, rfl, rfl, trivial⟩
  have hsup := T.sup
  unfold ks_superIn at hsup
  rw [hcl, Option.bind_some] at hsup
  refine kxs_getMethod kxs_ValueError e1 (looks_opaque X2 T.third) (l₀ := Value.ref C :: bm) (fun A Q E s k q => wpAny_bind ((looks_clsIn X2 hcl) A _ E s k (wpAny_pure q))) rfl X2 hsup (I2.type.andThen (looks_subIn X2 T.ve)) (ks_ne X2 I2 hcl) (by decide) ?_
  have kp2 : ∀ b o, h1.get? b = some o → (h1.push (kxs_mw "ValueError.__init__" a)).get? b = some o := fun b o e => Heap.get?_push_of_some _ e
  have hu : (h1.push (kxs_mw "ValueError.__init__" a)).get? h1.objs.size = some (kxs_mw "ValueError.__init__" a) := Heap.get?_push_at rfl rfl
  have ha3 := kp2 _ _ ha2
  have X3 : K.In (h1.push (kxs_mw "ValueError.__init__" a)) := X2.keeps kp2
  refine kxs_callWith (i := "ValueError.__init__") (x := a) rfl (evalArgs_empty ⟨hu, ?_⟩)
  refine wpAny_call (codeAny_of_tree (show wpAny _ _ (callAny (.ref h1.objs.size) ⟨[], []⟩) _ _ _ from ?_))
  simp only [callAny]
  refine wpAny_bind (wpAny_load hu (KFB.if_so (by dsimp only [kxs_mw]; decide) (wpAny_bind (check_bound_init F.excBase_ValueError.toExcCallFacts (X3 _ _ hC) ha3 rfl (wpAny_bind (wpAny_pure (wpAny_pure ⟨plainId_quiet F.excBase_ValueError.init.plain _, codeAny_builtin F.excBase_ValueError.initEntry ?_⟩)))))))
  refine exc_init_tree (cls := .ref C) (t0 := t1) (dv := none) (c2 := .none) (c3 := .none) (b4 := .bool false) (rest := []) ha3 (Nat.zero_le _) fun h3 kp3 e3 t3 => ?_
  have kp03 : ∀ b o, b ≠ a → h₀.get? b = some o → h3.get? b = some o := fun b o n e => kp3 b o n (kp2 _ _ (kp1 _ _ e))
  have X4 : K.In h3 := fun b o e => kp03 b o (fun z => by
    have y := M.kin _ _ e
    rw [z, na] at y
    cases y) (X1 _ _ e)
  have hns3 : h3.Ns hp0.objs.size (fun x => ([("self", .ref a), ("value", u)] : List (Str × Value)).reverse.lookup x) := by
    obtain ⟨o, es, ep, ho, r⟩ := hns
    exact ⟨o, es, ep, kp03 _ _ (Nat.ne_of_gt haL) ho, r⟩
  refine ks_wpAt_execs_cons (ks_wpAt_Assign_Attr (wpAt_of_wpAny (ldL hk hkv hns3 (v := u) rfl (ldL hk hka hns3 (v := .ref a) rfl ?_))))
  refine set_plain X4 (ox := { cls := .ref C, dict := none, data := .fields #[.ref _, .none, .none, .none, .bool false, .none] }) (od := none) ⟨e3, rfl, rfl, trivial⟩ T.cls.sa ?_
  refine PySem.HandSPX.exc_osa X4 e3 hcl (show PySem.HandSPX.refsVE (.ref C :: bm) = true from hbm) rfl T.noV (fun h4 tk4 dx kp4 dn dne hx hn => ?_)
  refine wpAt_of_wpAny (wpAny_execs_nil ?_)
  refine hq h4 tk4 dx _ (fun b o n e => kp4 b o n (kp03 b o n (kp0 b o e))) ?_ hx hn
  have l1 : hp0.objs.size ≤ h3.objs.size := by
    obtain ⟨o, es, ep, ho, r⟩ := hns3
    exact Nat.le_of_lt (Heap.lt_size ho)
  exact Nat.le_trans l1 dn
/-- the heap with an own error's dict laid at dx, by its parts -/
def errH (H : Hp) (a dx C : Addr) (y : V) : Hp := upd (upd H dx (exd dx [("value", y)])) a (exo a C (some dx))
theorem errH_off {H : Hp} {a b dx C : Addr} {y : V} (n1 : b ≠ a) (n2 : b ≠ dx) : errH H a dx C y b = H b := (upd_ne n1).trans (upd_ne n2)
/-- what an address holds that is no error being made -/
theorem errH_old {H : Hp} {a b dx C : Addr} {y : V} {u : HO} (ea : H a = some (exo a C none)) (ed : H dx = none) (eb : H b = some u) (ne : exo a C none ≠ u) : errH H a dx C y b = some u :=
  (errH_off (at_ne ea eb ne) (ne_of_none eb ed)).trans eb
/-- a new dict at dx beside an error at a: what the heaps say -/
theorem err_un {fs : List Addr} {H : Hp} {hp h' : Heap} {dx : Addr} {y : V} {u : Value} {t2 : Addr} (hok : HOk P w H hp) (ea : H a = some (exo a C none)) (kp : ∀ b o, b ≠ a → hp.get? b = some o → h'.get? b = some o) (dn : hp.objs.size ≤ dx)
    (hx : h'.get? a = some { cls := .ref C, dict := some dx, data := .fields #[.ref t2, .none, .none, .none, .bool false, .none] }) (hn : h'.Ns1 dx (fun z => if z = ("value" : Str) then some u else none)) (ry : RelV y u) :
    H dx = none ∧ dx ≠ a ∧ Un fs [] H (errH H a dx C y) hp h' ∧ HOk P w (errH H a dx C y) h' := by
  have ed : H dx = none := hok.fresh dn
  have away : ∀ {b : Addr}, H b = none → b ≠ a := fun {b} e z => by
    subst z
    exact nomatch e.symm.trans ea
  have low : ∀ {b : Addr} {o : Obj}, hp.get? b = some o → b ≠ dx := fun {b o} e => Nat.ne_of_lt (Nat.lt_of_lt_of_le (Heap.lt_size e) dn)
  have un : Un fs [] H (errH H a dx C y) hp h' := {
    keep := fun b o e n _ _ => kp b o (away n) e
    slot := fun b o e n _ _ => ⟨o.slots, kp b o (away n) e⟩
    free := fun b o e n _ => (errH_off (away n) (low e)).trans n
    there := fun b o e _ => if z : b = a then ⟨_, z ▸ hx⟩ else ⟨o, kp b o z e⟩
    tups := fun b xs e => errH_old ea ed e exo_tup
    frzs := fun b o v e => errH_old ea ed e exo_frz
    tbls := fun b ps e => ⟨#[], by rw [errH_old ea ed e exo_tbl]; simp⟩ }
  refine ⟨ed, (away ed), un, fun b o e => ?_⟩
  by_cases z1 : b = a
  · subst z1
    obtain rfl : exo b C (some dx) = o := Option.some.inj ((upd_same).symm.trans e)
    exact exo_ok hx
  by_cases z2 : b = dx
  · subst z2
    obtain rfl : exd b [("value", y)] = o := Option.some.inj (((upd_ne z1).trans upd_same).symm.trans e)
    exact exd_ok hn (relO_put (fs := []) ry fun _ => trivial)
  refine (hok b o ((errH_off z1 z2).symm.trans e)).stay (fun c v hc e => kp c v ?_ e) (fun c hc => errH_old ea ed hc exo_own) fun c xs hc => errH_old ea ed hc exo_tup
  rcases hc with hc | hc
  · exact hc ▸ z1
  · exact at_ne ea hc exo_own
theorem init_ok {CX : CXT} (T : ErrI P K mg C f fd) : FnOk P w K mg base CX k f fd ["self", "value"] (spInit C) := by
  refine ⟨fun vs H Q E ⟨a, y, e, _⟩ => by rw [e]; rfl, fun A outer s H args us vs Q E hr e0 hb r hsp => ?_⟩
  obtain ⟨a, y, rfl, ha, q⟩ := hsp
  obtain ⟨u1, u, rfl, r1, ru⟩ := vals2 r
  obtain rfl : u1 = Value.ref a := r1
  obtain ⟨t1, ho⟩ := exo_at e0.hok ha
  have na : base.get? a = none := by
    cases z : base.get? a with
    | none => rfl
    | some o => have := (e0.bs a o z).2; rw [ha] at this; cases this
  refine init_code (t1 := t1) (u := u) T hr.depth e0.mod (fun b o e => (e0.bs b o e).1) na hb ho fun h' tk dx t2 kp dn hx hn => ?_
  obtain ⟨h1, h2, h3, h4⟩ := err_un (fs := frs outer) e0.hok ha kp dn hx hn ru
  exact ⟨.non, _, rfl, e0.bare, h3, h4, rfl, q dx h1 h2⟩
end
end VE
/-! E2: an own error class below ValueError is called, with keywords too (what HandS.Exc says of calls by place). -/
namespace VE
open PySem PySem.W PySem.Calls PySem.Spec PyProof.Rows L2 PySem.HandSPX
/-- at C: an own class below ValueError -/
def VeC (h : Heap) (C : Addr) : Prop := ∃ nm q N bs bm hd sn sub ab col dd k0 k1 k2 k3 k5, h.get? C = some (excClassObj nm q C N bs bm hd sn sub ab col dd k0 k1 k2 k3 k5 "ValueError.__new__") ∧ refsVE bm = true
theorem VeC.keeps {h h' : Heap} {C : Addr} (c : VeC h C) (k : ∀ b o, h.get? b = some o → h'.get? b = some o) : VeC h' C := by
  obtain ⟨nm, q, N, bs, bm, hd, sn, sub, ab, col, dd, k0, k1, k2, k3, k5, e, v⟩ := c
  exact ⟨nm, q, N, bs, bm, hd, sn, sub, ab, col, dd, k0, k1, k2, k3, k5, k _ _ e, v⟩
theorem ve_con {bm : List Value} (v : refsVE bm = true) (C : Addr) (X : String) {b : Bool} (e : veTail.contains (.type X) = b) : (Value.ref C :: bm).contains (.type X) = b := by
  rw [List.contains_cons, refsVE_contains X bm v, e]
  rfl
/-- the heap behind __new__: the args' tuple, the bare error at it -/
abbrev laidE (h : Heap) (C : Addr) (us : List Value) : Heap := (h.push (W.kdv_tup us)).push (excO C h.objs.size)
theorem laidE_keep {h : Heap} {C : Addr} {us : List Value} {b : Addr} {o : Obj} (e : h.get? b = some o) : (laidE h C us).get? b = some o := Heap.get?_push_of_some _ (Heap.get?_push_of_some _ e)
theorem laidE_get {h : Heap} {C : Addr} {us : List Value} : (laidE h C us).get? (h.objs.size + 1) = some (excO C h.objs.size) := by heap_get
section
variable {M : Model} {P : Program} {w : World} {A : Around} {E : Value → Shared → Prop} {R : Result → Shared → Prop} {h : Heap} {gs : Array GenState} {dr : Drawn} {tk : Nat} {os : OsState} {C f : Addr} {us : List Value} {kw : List (Str × Value)}
theorem new_chk {Q : Unit → Shared → Prop} (c : VeC h C) (q : Q () ⟨h, gs, dr, tk, os⟩) : wpAny M A (checkBuiltinCall "ValueError.__new__" ⟨.ref C :: us, kw⟩) Q E ⟨h, gs, dr, tk, os⟩ := by
  obtain ⟨nm, _, N, bs, bm, hd, sn, sub, ab, col, dd, k0, k1, k2, k3, k5, e, v⟩ := c
  have z1 := ve_con v C "ValueError" (b := true) (by decide)
  have z2 := F.excBase_ValueError.noStar
  simp only [checkBuiltinCall, F.excBase_ValueError.newKind, F.excBase_ValueError.newSplit, F.excBase_ValueError.newRow]
  repeat (first | refine wpAny_loadPart_at e ?_ | (refine wpAny_isSubtype_exc e ?_; rw [z1]) | refine wpAny_staticBase_exc e ?_ | refine wpAny_madeBy_exc e ?_ | simp only [bne_self_eq_false, Bool.false_eq_true, if_false] | wp_step)
  exact q
theorem new_run (c : VeC h C) (hz : us.length ≤ sizeLine) (q : R (.ok (.ret (.ref (h.objs.size + 1)))) ⟨laidE h C us, gs, dr, tk, os⟩) : codeAny (model P w) A (.builtin "ValueError.__new__" ⟨.ref C :: us, kw⟩) R ⟨h, gs, dr, tk, os⟩ := by
  obtain ⟨nm, _, N, bs, bm, hd, sn, sub, ab, col, dd, k0, k1, k2, k3, k5, e, v⟩ := c
  have z0 := F.excBase_ValueError.ends
  have z1 := ve_con v C "ValueError" (b := true) (by decide)
  have z2 := ve_con v C "AttributeError" (b := false) (by decide)
  have z3 := ve_con v C "NameError" (b := false) (by decide)
  refine codeAny_builtinAt F.excBase_ValueError.entry (PySem.wpAt_bind (m := stack >>= _) ?_)
  refine PySem.wpAt_bind (PySem.wpAt_stack fun p below => PySem.wpAt_of_wpAny ?_)
  wp_walk
  refine PySem.wpAt_of_wpAny ?_
  rw [F.excBase_ValueError.owner]
  repeat (first | with_reducible refine wpAny_madeHere_exc F.excBase_ValueError.canon e ?_ | with_reducible refine wpAny_loadPart_at e ?_ | (with_reducible refine wpAny_isSubtype_exc e ?_; first | rw [z1] | rw [z2] | rw [z3]) | wp_step)
  show R _ _
  rw [Heap.size_push]
  exact q
theorem tc_run {Q : Fin → Shared → Prop} (c : VeC h C) (li : W.Looks (model P w) h (typeLookup (.ref C) "__init__") (some (.ref f))) (lb : ∀ x, W.Looks (model P w) h (bindSpecial (.ref f) x) (.ref f, [x])) (hz : us.length ≤ sizeLine)
    (q : codeAny (model P w) A (.call (.ref f) ⟨.ref (h.objs.size + 1) :: us, kw⟩) (fun r s1 => match r with
      | .ok (.ret u) => u = .none ∧ Q (.done (.ret (.ref (h.objs.size + 1)))) s1
      | .ok _ => False
      | .error u => E u s1) ⟨laidE h C us, gs, dr, tk, os⟩) : wpAny (model P w) A (Builtin.«type.__call__» ⟨.ref C :: us, kw⟩) Q E ⟨h, gs, dr, tk, os⟩ := by
  have c1 : VeC (laidE h C us) C := c.keeps fun b o => laidE_keep
  have l1 := li.keeps (h' := laidE h C us) fun b o => laidE_keep
  have l2 := (lb (.ref (h.objs.size + 1))).keeps (h' := laidE h C us) fun b o => laidE_keep
  have c0 := c
  obtain ⟨nm, _, N, bs, bm, hd, sn, sub, ab, col, dd, k0, k1, k2, k3, k5, e, v⟩ := c0
  repeat (first | with_reducible refine wpAny_loadPart_at e ?_ | with_reducible refine wpAny_madeBy_exc e ?_ | wp_step)
  refine codeAny_call_builtin_code (Code.quiet_builtin _ F.excBase_ValueError.quiet) (new_chk c (new_run c hz ?_))
  show wpAny _ _ _ _ _ _
  have own : (Value.ref C :: bm).contains (.ref C) = true := List.contains_iff_mem.mpr List.mem_cons_self
  have e1 : (laidE h C us).get? C = _ := laidE_keep e
  unfold isInstance
  repeat (first | with_reducible refine wpAny_loadPart_at laidE_get ?_ | (with_reducible refine wpAny_isSubtype_exc e1 ?_; rw [own]) | wp_step)
  refine l1.at (wpAny_holding (wpAny_bind (l2.at (wpAny_bind (wpAny_call (codeAny_mono q fun r s1 y => ?_))))))
  match r, y with
  | .error _, y => exact y
  | .ok (.ret _), y =>
    obtain ⟨rfl, y⟩ := y
    first
      | exact wpAny_pure (wpAny_pure y)
      | (wp_walk; exact y)
theorem tc_chk {Q : Unit → Shared → Prop} (c : VeC h C) (q : Q () ⟨h, gs, dr, tk, os⟩) : wpAny M A (checkBuiltinCall "type.__call__" ⟨.ref C :: us, kw⟩) Q E ⟨h, gs, dr, tk, os⟩ := by
  obtain ⟨nm, _, N, bs, bm, hd, sn, sub, ab, col, dd, k0, k1, k2, k3, k5, e, _⟩ := c
  have z1 := tc_sub
  have z2 : (⟨h, gs, dr, tk, os⟩ : Shared).TypeIs (.ref C) "type" := ⟨_, e, rfl⟩
  simp only [checkBuiltinCall, tc_kind, tc_split]
  repeat (any_goals (first | assumption | with_reducible refine wpAny_onRaise ?_ | with_reducible refine wpAny_map ?_ | with_reducible refine wpAny_loadPart_at e ?_ | wp_step))
/-- the call: what __init__ then does is q's -/
theorem call_ve (c : VeC h C) (li : W.Looks (model P w) h (typeLookup (.ref C) "__init__") (some (.ref f))) (lb : ∀ x, W.Looks (model P w) h (bindSpecial (.ref f) x) (.ref f, [x])) (hz : us.length ≤ sizeLine)
    (q : codeAny (model P w) (A.under (.builtin "type.__call__" ⟨.ref C :: us, kw⟩)) (.call (.ref f) ⟨.ref (h.objs.size + 1) :: us, kw⟩) (W.InitBack (h.objs.size + 1) R) ⟨laidE h C us, gs, dr, tk, os⟩) : codeAny (model P w) A (.call (.ref C) ⟨us, kw⟩) R ⟨h, gs, dr, tk, os⟩ := by
  have c0 := c
  obtain ⟨nm, _, N, bs, bm, hd, sn, sub, ab, col, dd, k0, k1, k2, k3, k5, e, _⟩ := c0
  have z1 := tc_lookup
  have z2 := tc_bind (.ref C)
  have z3 : (⟨h, gs, dr, tk, os⟩ : Shared).TypeIs (.ref C) "type" := ⟨_, e, rfl⟩
  refine codeAny_of_tree (show wpAny _ _ (callAny (.ref C) _) _ _ _ from ?_)
  repeat (any_goals (first | assumption | wp_step | with_reducible refine wpAny_loadPart_at e ?_))
  refine ⟨rfl, codeAny_call_builtin_at (Code.quiet_builtin _ (by decide +kernel)) entry_typeCall (tc_chk c (tc_run c li lb hz (codeAny_mono q fun r s1 y => ?_)))⟩
  match r, y with
  | .error _, y => exact y
  | .ok (.ret _), y => exact y
end
end VE
/-! E3: own errors made as values, their field, isinstance. -/
namespace VE
open PySem PySem.W PySem.Calls PySem.Spec PyProof.Rows L2 PySem.HandSPX
abbrev bd (x u : Value) : List (Str × Value) := [("self", x), ("value", u)]
section
variable {P : Program} {K : PySem.W.Frag} {mg : Str → Option Value} {C f : Addr} {fd : FuncData}
theorem ErrI.b2 (T : ErrI P K mg C f fd) (s : Shared) (x u : Value) (X : K.In s.heap) : BindsTo s fd ⟨[x, u], []⟩ (bd x u) := by
  obtain ⟨qual, q1, q2, df, scope, cc, cda, Td, kV, doc, pm, ct, To, tn, an, p0, p1, p2, p3, p4, p5, p6, p7, p8, oc, od, osl, ccl, cdd, vs, ccs, file, tf, cl, cld, csl, cdD, hline, rfl, lk, hcd, lT, oT, _⟩ := T.fn
  refine BindsTo.of_looks fun M => ?_
  rw [show bindArgs (fnX "__init__" qual (iParams q1 q2 df) (iBody p0 p1 p2 p3 p4 p5 p6 p7 p8) scope [("__class__", cc)] (.ref Td) kV doc pm an (.ref cda) ct) ⟨[x, u], []⟩ = seqItems? (.ref Td) >>= _ from rfl]
  exact looks_items X lT oT (.of_pure rfl)
theorem ErrI.b1 (T : ErrI P K mg C f fd) (s : Shared) (x : Value) (X : K.In s.heap) : BindsTo s fd ⟨[x], []⟩ (bd x .none) := by
  obtain ⟨qual, q1, q2, df, scope, cc, cda, Td, kV, doc, pm, ct, To, tn, an, p0, p1, p2, p3, p4, p5, p6, p7, p8, oc, od, osl, ccl, cdd, vs, ccs, file, tf, cl, cld, csl, cdD, hline, rfl, lk, hcd, lT, oT, _⟩ := T.fn
  refine BindsTo.of_looks fun M => ?_
  rw [show bindArgs (fnX "__init__" qual (iParams q1 q2 df) (iBody p0 p1 p2 p3 p4 p5 p6 p7 p8) scope [("__class__", cc)] (.ref Td) kV doc pm an (.ref cda) ct) ⟨[x], []⟩ = seqItems? (.ref Td) >>= _ from rfl]
  exact looks_items X lT oT (.of_pure rfl)
theorem ErrI.bk (T : ErrI P K mg C f fd) (s : Shared) (x u : Value) (X : K.In s.heap) : BindsTo s fd ⟨[x], [("value", u)]⟩ (bd x u) := by
  obtain ⟨qual, q1, q2, df, scope, cc, cda, Td, kV, doc, pm, ct, To, tn, an, p0, p1, p2, p3, p4, p5, p6, p7, p8, oc, od, osl, ccl, cdd, vs, ccs, file, tf, cl, cld, csl, cdD, hline, rfl, lk, hcd, lT, oT, _⟩ := T.fn
  refine BindsTo.of_looks fun M => ?_
  rw [show bindArgs (fnX "__init__" qual (iParams q1 q2 df) (iBody p0 p1 p2 p3 p4 p5 p6 p7 p8) scope [("__class__", cc)] (.ref Td) kV doc pm an (.ref cda) ct) ⟨[x], [("value", u)]⟩ = seqItems? (.ref Td) >>= _ from rfl]
  exact looks_items X lT oT (.of_pure rfl)
end
/-- an own error at a, its dict at dx -/
def putE (H : Hp) (a dx C : Addr) (y : V) : Hp := upd (upd H dx (exd dx [("value", y)])) a (exo a C (some dx))
theorem putE_eq {H : Hp} {a dx C : Addr} {y : V} {o : HO} : upd (upd (upd H a o) dx (exd dx [("value", y)])) a (exo a C (some dx)) = putE H a dx C y := by
  funext b
  unfold putE upd
  by_cases h1 : b = a
  · simp [h1]
  · by_cases h2 : b = dx
    · simp [h2]
    · simp [h1, h2]
structure ErrM (P : Program) (K : PySem.W.Frag) (mg : Str → Option Value) (C f : Addr) (fd : FuncData) : Prop extends ErrI P K mg C f fd where
  iC : findIn K (.ref C) "__init__" = some (some (.ref f))
  tI : typeIn K (.ref f) = some (.type "function")
theorem oexC_ve {K : PySem.W.Frag} {h : Heap} {C : Addr} (c : OexC K C) (X : K.In h) : VeC h C := by
  obtain ⟨nm, q, N, bs, bm, sn, sub, ab, col, dd, k0, k1, k2, k3, k5, e, v⟩ := c.cls
  exact ⟨nm, q, N, bs, bm, true, sn, sub, ab, col, dd, k0, k1, k2, k3, k5, X _ _ e, v⟩
section
variable {X : Cx} {C f : Addr} {fd : FuncData} {k : Nat}
theorem run_mkx {pins : List (Addr × Obj)} {σ : L2.St} {H : Hp} {s : Shared} {Q : VK} {us : List Value} {kw : List (Str × Value)} {y : V} {u : Value} (T : ErrM X.prog X.K X.mg C f fd) (hr : Room (k + 1) X.A) (I : Inv X pins σ H s) (ry : RelV y u)
    (hb : ∀ (s' : Shared) (x : Value), X.K.In s'.heap → BindsTo s' fd ⟨x :: us, kw⟩ (bd x u)) (hus : us.length ≤ sizeLine)
    (h : ∀ a dx, H a = none → H dx = none → dx ≠ a → Q (.ref a) (putE H a dx C y)) : wpAny (model X.prog X.w) X.A (call (.ref C) us kw) (EP X pins σ Q) X.xe s := by
  obtain ⟨hp, gs, dr, tk, os⟩ := s
  have vacant : H (hp.objs.size + 1) = none := I.hok.fresh (Nat.le_succ _)
  have J : Inv X pins σ (upd H (hp.objs.size + 1) (exo (hp.objs.size + 1) C none)) ⟨laidE hp C us, gs, dr, tk, os⟩ := I.laid (t' := tk) (h' := laidE hp C us) (fun b o => laidE_keep) (Nat.le_succ _) (exo_ok laidE_get)
  have go := (init_ok (P := X.prog) (w := X.w) (base := X.base) (CX := CX0) (k := k) T.toErrI).run (X.A.under (.builtin "type.__call__" ⟨.ref C :: us, kw⟩)) X.stack _ _ ⟨.ref (hp.objs.size + 1) :: us, kw⟩ [.ref (hp.objs.size + 1), u] [.ref (hp.objs.size + 1), y]
    (fun v H2 => v = .non ∧ Q (.ref (hp.objs.size + 1)) H2) (fun _ _ _ => False) (hr.make C us kw) (J.env0.make C us kw) (hb _ _ J.kIn) (.cons rfl (.cons ry .nil)) ⟨_, y, rfl, upd_same, fun dx h1 h2 => ⟨rfl, by
      rw [upd_ne h2] at h1
      exact putE_eq ▸ h _ _ vacant h1 h2⟩⟩
  refine wpAny_call (call_ve (oexC_ve T.cls I.kIn) (looks_findIn I.kIn T.iC) (fun x => bind_fn I.kIn x T.tI) hus (codeAny_mono go fun r s1 z => ?_))
  match r, z with
  | .ok (.ret v), z =>
    obtain ⟨v1, H1, J1, rv, rfl, q⟩ := J.after z
    exact ⟨rv, V.ref (hp.objs.size + 1), H1, J1, rfl, q⟩
end
end VE
/-! E4: rules for own errors as values. -/
namespace VE
open PySem PySem.W PySem.Calls PySem.Spec PyProof.Rows L2 PySem.HandSPX
section
variable {X : Cx} {C f : Addr} {fd : FuncData} {k : Nat} {x : Str} {e : Expr} {p pos kpos : Pos} {te : TE}
def tMk (C : Addr) (te : TE) : TE := fun σ H Q => te σ H fun y H1 => ∀ a dx, H1 a = none → H1 dx = none → dx ≠ a → Q (.ref a) (putE H1 a dx C y)
def oneQ (C : Addr) (Q : VK) : List V → Hp → Prop := fun ys H1 => match ys with
  | [y] => ∀ a dx, H1 a = none → H1 dx = none → dx ≠ a → Q (.ref a) (putE H1 a dx C y)
  | _ => False
theorem size0 : ([] : List Value).length ≤ sizeLine := Nat.zero_le _
theorem size1 {u : Value} : [u].length ≤ sizeLine := by show 1 ≤ sizeLine; rw [sizeLine_eq]; omega
/-- C(e) -/
theorem pe_mk1 (T : ErrM X.prog X.K X.mg C f fd) (hr : Room (k + 1) X.A) (hg : Gl X x) (hm : X.mg x = some (.ref C)) (he : PE X e te) (hs : starEach [e] X.env = (false, eval e X.env) :: starEach [] X.env) (hdb : (x == ("__debug__" : Str)) = false) :
    PE X (.Call (.Name x p) [e] [] pos) (tMk C te) := by
  refine ⟨fun pins s σ H Q I h => wpAny_Call_Name_kw (ld_glob I hg hm (PySem.W.callWith_K (h₀ := X.base) I.ok.mod.kin T.cls.kC (thn ((pa_cons he pa_nil hs).run pos pins s σ H (oneQ C Q) I h) fun us s1 ⟨ys, H1, J, ry, q⟩ => ⟨J.kIn, ?_⟩) hs (by rfl)) hdb)⟩
  match ys, q, ry with
  | [y], q, .cons r .nil => exact run_mkx T hr J r (fun s' z Y => T.b2 s' z _ Y) size1 q
/-- C() -/
theorem pe_mk0 (T : ErrM X.prog X.K X.mg C f fd) (hr : Room (k + 1) X.A) (hg : Gl X x) (hm : X.mg x = some (.ref C)) (hdb : (x == ("__debug__" : Str)) = false) :
    PE X (.Call (.Name x p) [] [] pos) (tMk C (fun σ H Q => Q .non H)) :=
  ⟨fun pins s σ H Q I h => wpAny_Call_Name_kw (ld_glob I hg hm (PySem.W.callWith_K0 I.kIn T.cls.kC (run_mkx (u := Value.none) (y := .non) T hr I rfl (fun s' z Y => T.b1 s' z Y) size0 h)) hdb)⟩
/-- C(value=e) -/
theorem pe_mkk (T : ErrM X.prog X.K X.mg C f fd) (hr : Room (k + 1) X.A) (hg : Gl X x) (hm : X.mg x = some (.ref C)) (he : PE X e te) (hdb : (x == ("__debug__" : Str)) = false) :
    PE X (.Call (.Name x p) [] [⟨some "value", e, kpos⟩] pos) (tMk C te) := by
  refine ⟨fun pins s σ H Q I h => wpAny_Call_Name_kw (ld_glob I hg hm (PySem.W.callWith_KW0 (h₀ := X.base) I.ok.mod.kin T.cls.kC (by rfl) (thn ((pk_cons (nm := some "value") (kpos := kpos) he pk_nil).run pos pins s σ H (oneQ C Q) I h) fun us s1 ⟨ys, H1, J, ry, q⟩ => ⟨J.kIn, ?_⟩) (by rfl)) hdb)⟩
  match ys, q, ry with
  | [y], q, .cons r .nil => exact run_mkx T hr J r (fun s' z Y => T.bk s' z _ Y) size0 q
/-- C(), C an own class without __init__ -/
theorem pe_mkb {bmB : List Value} {B newId initId : String} (F : ExcBaseFacts B newId initId bmB) (q : PySem.W.excIn X.K C bmB newId = true) (hm : X.mg x = some (.ref C)) (kC : PySem.W.keepIn X.K (.ref C) = true) (hg : Gl X x) (hdb : (x == ("__debug__" : Str)) = false) :
    PE X (.Call (.Name x p) [] [] pos) (fun σ H Q => ∀ a, H a = none → Q (.ref a) (upd H a (exo a C none))) := by
  refine ⟨fun pins s σ H Q I h => wpAny_Call_Name_kw (ld_glob I hg hm (PySem.W.callWith_K0 I.kIn kC (show wpAny _ _ (call (.ref C) []) _ _ _ from ?_)) hdb)⟩
  obtain ⟨bm, N, nm, qn, bs, hdct, sn, sub, ab, col, dd, k0, k1, k2, k3, k5, mN, hC, hN, hni, T⟩ := exc_obj I.kIn q
  refine wpAny_call_exc_subT F T hC hN hni (fun h' a made => ?_) size0
  have vacant : H a = none := I.hok.gone made.new
  obtain ⟨t, at_, _⟩ := made.there
  exact ⟨.ref a, upd H a (exo a C none), I.laidN made.keeps made.new vacant (exo_ok at_), rfl, h a vacant⟩
/-- e.value -/
theorem pe_ev {n : Str} (hb : attributeBase e n X.env (eval e X.env) = eval e X.env) (he : PE X e te) :
    PE X (.Attribute e n pos) (fun σ H Q => te σ H fun x H1 => ∃ (a dx C : Addr) (fs : List (Str × V)) (v : V), x = .ref a ∧ XfC X.K C ∧ PySem.W.findIn X.K (.ref C) n = some none ∧ H1 a = some (exo a C (some dx)) ∧ H1 dx = some (exd dx fs) ∧ fs.lookup n = some v ∧ Q v H1) := by
  refine ⟨fun pins s σ H Q I h => attr_of hb (thn (he.run pins s σ H _ I h) fun u s1 ⟨x, H1, I1, rx, a, dx, C, fs, v, ex, T, hno, ea, ed, l, q⟩ => ?_)⟩
  subst ex
  obtain rfl : u = Value.ref a := rx
  obtain ⟨t1, ho⟩ := exo_at I1.hok ea
  obtain ⟨mA, hns, hr⟩ := exd_at I1.hok ed
  obtain ⟨od, hod, hl⟩ := lookIn_ns hns
  obtain ⟨w, hw, rw'⟩ := RelO.some_of (v := v) (o := mA n) (by rw [← l]; exact hr n)
  have J : PySem.W.InstAt s1.heap a _ C (some od) := ⟨ho, rfl, rfl, hod⟩
  exact HandSPX.exc_get I1.kIn J T.ga T.gg T.exC (PySem.W.findObj_own T.hdC hno rfl (by rw [hl, hw])) (handed_of rw') ⟨v, H1, I1.tok _, rw', q⟩
end
end VE
/-! E5: isinstance of own errors. -/
namespace VE
open PySem PySem.W PySem.Calls PySem.Spec PyProof.Rows L2 PySem.HandSPX
theorem kitx_own {K : Frag} {x D : Addr} {ox : Obj} {od : Option Obj} (C : ExcC K D) : KitX K (.ref x) (.ref D) (fun h => InstAt h x ox D od) :=
  kitx_exc (by obtain ⟨cd, e, _⟩ := any_some C.hd; rw [e]; rfl) C.hg C.hk C.hs C.ha C.hn C.ht C.hm
/-- an own error of the class at C stands at a, with its dict or without one -/
def ErrAt (H : Hp) (a C : Addr) : Prop := H a = some (exo a C none) ∨ ∃ dx fs, H a = some (exo a C (some dx)) ∧ H dx = some (exd dx fs)
def rIsX (K : PySem.W.Frag) : List V → Hp → VK → Prop := fun xs H Q => ∃ (a D : Addr) (c : V) (cv : Value) (b : Bool), xs = [.ref a, c] ∧ ErrAt H a D ∧ ExcC K D ∧ (∀ u, RelV c u → u = cv) ∧ PySem.W.kitOne K (.ref D) cv = some b ∧ Q (.bl b) H
theorem call_isX {X : Cx} : CallR X (.builtin "isinstance") (rIsX X.K) := by
  rintro pins s σ H xs us Q I r ⟨a, D, c, cv, b, rfl, he, C, hcv, e, q⟩
  obtain ⟨u1, u2, rfl, rx, rt⟩ := vals2 r
  obtain rfl : u1 = Value.ref a := rx
  have ec := hcv _ rt
  subst ec
  obtain ⟨ox, od, J⟩ : ∃ ox od, PySem.W.InstAt s.heap a ox D od := by
    rcases he with ea | ⟨dx, fs, ea, ed⟩
    · obtain ⟨t1, ho⟩ := exo_at I.hok ea
      exact ⟨_, none, ho, rfl, rfl, trivial⟩
    · obtain ⟨t1, ho⟩ := exo_at I.hok ea
      obtain ⟨mA, hns, hr⟩ := exd_at I.hok ed
      obtain ⟨od, hod, hl⟩ := lookIn_ns hns
      exact ⟨_, some od, ho, rfl, rfl, hod⟩
  exact PySem.W.kia_one (kitx_own C) I.kIn J e (fun z => nomatch z) fun tk => ⟨.bl b, H, I.kept (t' := tk) fun _ _ z => z, rfl, q⟩
end VE
/-! G1: promises of defs that run where nothing is being shown (repr's guards): HandS's FnOk with A.guards = some [] beside Room. -/
namespace L2
open PySem PySem.Spec PyProof.Rows
structure FnOkG (P : Program) (w : World) (K : PySem.W.Frag) (mg : Str → Option Value) (base : Heap) (CX : CXT) (k : Nat) (f : Addr) (fd : FuncData) (ps : List Str) (sp : Sp) : Prop where
  ar : ∀ vs H Q E, sp vs H Q E → vs.length = ps.length
  go : ∀ (A : Around) (outer : List Env) (s : Shared) (H : Hp) (args : Args) (us : List Value) (vs : List V) (Q : VK) (E : XK), Room k A → A.guards = some [] → Env0 P w K mg base A outer s H → BindsTo s fd args (ps.zip us) → Vals vs us → sp vs H Q E → codeAny (model P w) A (.call (.ref f) args) (CR CX outer P w H s Q E) s
section
variable {P : Program} {w : World} {K : PySem.W.Frag} {mg : Str → Option Value} {base : Heap} {CX : CXT} {k j : Nat} {f : Addr} {fd : FuncData} {ps : List Str} {sp sp' : Sp}
theorem FnOkG.mono (F : FnOkG P w K mg base CX j f fd ps sp) (h : j ≤ k) : FnOkG P w K mg base CX k f fd ps sp := ⟨F.ar, fun A outer s H args us vs Q E hr => F.go A outer s H args us vs Q E (hr.mono h)⟩
end
section
variable {X : Cx} {CX : CXT} {k : Nat} {f : Addr} {fd : FuncData} {ps : List Str} {sp : Sp} {dvs : List V} {ds : List Value} {E : XK} {x : Str} {p pos : Pos} {e : Expr} {es : List Expr} {t : TA}
/-- such a def is called -/
theorem run_fnG {pins : List (Addr × Obj)} {σ : St} {H : Hp} {s : Shared} {Q : VK} {us : List Value} {vs : List V} (F : FnOkG X.prog X.w X.K X.mg X.base CX k f fd ps sp) (hr : Room k X.A) (gu : X.A.guards = some []) (hb : Binds X.K fd ps ds) (hd : Vals dvs ds) (hx : Passes CX X E)
    (I : Inv X pins σ H s) (r : Vals vs us) (q : sp (vs ++ dvs) H Q E) : wpAny (model X.prog X.w) X.A (call (.ref f) us) (EP X pins σ Q) X.xe s := by
  have all := r.append hd
  have bound := hb s us I.kIn (all.length.symm.trans (F.ar _ _ _ _ q))
  refine wpAny_call (codeAny_mono (F.go X.A X.stack s H ⟨us, []⟩ _ _ Q E hr gu I.env0 bound all q) fun res s1 z => ?_)
  match res, z with
  | .error u, z => exact hx pins σ H s u s1 I z
  | .ok (.ret u), z => exact I.after z
theorem pe_callG (F : FnOkG X.prog X.w X.K X.mg X.base CX k f fd ps sp) (hr : Room k X.A) (hgu : X.A.guards = some []) (hg : Gl X x) (hm : X.mg x = some (.ref f)) (hk : PySem.W.keepIn X.K (.ref f) = true) (hb : Binds X.K fd ps ds) (hd : Vals dvs ds) (hx : Passes CX X E)
    (ha : PA X (e :: es) t) (hdb : (x == ("__debug__" : Str)) = false) (he : starEach (e :: es) X.env = (false, eval e X.env) :: starEach es X.env) (hpl : (backTo pos (starEach es X.env)).any (·.1) = false) : PE X (.Call (.Name x p) (e :: es) [] pos) (tCall sp dvs E t) :=
  ⟨fun pins s σ H Q I h => wpAny_Call_Name_kw (ld_glob I hg hm (PySem.W.callWith_K (h₀ := X.base) I.ok.mod.kin hk (thn (ha.run pos pins s σ H _ I h) fun us s1 ⟨vs, H1, I1, r, q⟩ => ⟨I1.kIn, run_fnG F hr hgu hb hd hx I1 r q⟩) he hpl) hdb)⟩
theorem pe_callG0 (F : FnOkG X.prog X.w X.K X.mg X.base CX k f fd ps sp) (hr : Room k X.A) (hgu : X.A.guards = some []) (hg : Gl X x) (hm : X.mg x = some (.ref f)) (hk : PySem.W.keepIn X.K (.ref f) = true) (hb : Binds X.K fd ps ds) (hd : Vals dvs ds) (hx : Passes CX X E)
    (hdb : (x == ("__debug__" : Str)) = false) : PE X (.Call (.Name x p) [] [] pos) (tCall sp dvs E tNil) :=
  ⟨fun pins s σ H Q I h => wpAny_Call_Name_kw (ld_glob I hg hm (PySem.W.callWith_K0 I.kIn hk (run_fnG (us := []) F hr hgu hb hd hx I .nil h)) hdb)⟩
end
section
variable {CX : CXT} {P : Program} {w : World} {K : PySem.W.Frag} {mg : Str → Option Value} {base : Heap} {k : Nat} {f : Addr} {x qual : Str} {params : Arguments} {body : List Stmt} {scope : Scope} {N ps : List Str} {sp : Sp} {dvs : List V} {kws : List (Str × V)} {fd : FuncData}
/-- what the body does where such a def is called -/
abbrev BodyG (CX : CXT) (P : Program) (w : World) (K : PySem.W.Frag) (mg : Str → Option Value) (base : Heap) (k : Nat) (f : Addr) (qual : Str) (body : List Stmt) (scope : Scope) (N : List Str) (sp : Sp) (cdv : Value) : Prop :=
  ∀ (A : Around) (outer : List Env) (s : Shared) (H : Hp) (vs : List V) (Q : VK) (E : XK), Room k (A.deeper (envOfC qual scope s.heap.objs.size f cdv)) → (A.deeper (envOfC qual scope s.heap.objs.size f cdv)).guards = some [] → sp vs H Q E →
    ∃ t, PSs (cxOf CX P w K mg base N qual scope f cdv A outer s H E) body t ∧ t { nx := fun _ H' => Q .non H', rt := Q } (start N vs) H
/-- from the body to the call: the frame is laid, its cells, the body's end is the call's -/
theorem FunD.okG (F : FunD K x qual params body scope dvs kws f fd) (S : FnScope N ps scope) (ar : ∀ vs H Q E, sp vs H Q E → vs.length = ps.length) (does : ∀ cdv : Value, BodyG CX P w K mg base k f qual body scope N sp cdv) : FnOkG P w K mg base CX (k + 1) f fd ps sp := by
  obtain ⟨oc, od, dV, kV, doc, pm, an, cdv, ct, osl, rfl, at_, code, _, _⟩ := F.ex
  refine ⟨ar, fun A outer s H args us vs Q E hr gu e0 bound r hsp => ?_⟩
  have up : ∀ {b o}, base.get? b = some o → s.heap.get? b = some o := fun e => (e0.bs _ _ e).1
  have kin : K.In s.heap := e0.mod.kin.keeps fun _ _ => up
  have kinds : ∀ y ∈ ps.zip us, scope.names.lookup y.1 = some .local ∨ (scope.names.lookup y.1 = some .cell ∧ ((cellsFrom (s.heap.objs.size + 1) scope.names []).lookup y.1).isSome = true) := by
    rintro ⟨n, v⟩ hy
    exact (S.par n (List.of_mem_zip hy).1).imp id fun q => ⟨q, PySem.W.cellsFrom_some _ _ _ (.inl q)⟩
  refine codeAny_call_function hr.depth (kin _ _ at_) rfl S.co S.gen rfl (PySem.W.codeRec_of kin code) (bound _ _ _ _ ?_)
  refine wpAny_newFunctionEnv_cells S.kind kinds fun env same s1 lay => ?_
  subst same
  obtain ⟨t, walk, q⟩ := does cdv A outer s H vs Q E (hr.deeper _) gu hsp
  have top : Inv (cxOf CX P w K mg base N qual scope f cdv A outer s H E) [] (start N vs) H s1 := inv_start S hr.hd e0 (ar _ _ _ _ hsp) r lay
  refine ⟨(e0.mod.nolimit.keeps fun _ _ => up).keeps lay.toInCall.keep, codeAny_func ?_⟩
  refine wpAny_mono (walk.run [] s1 (start N vs) H _ top q) (fun fl s2 z => ?_) fun _ _ z => z
  cases fl with
  | ret u =>
    obtain ⟨v, _, H1, J, rv, y⟩ := z
    exact ⟨v, H1, J.os, J.bare, J.base, J.hok, rv, y⟩
  | next =>
    obtain ⟨_, H1, J, y⟩ := z
    exact ⟨.non, H1, J.os, J.bare, J.base, J.hok, rfl, y⟩
  | brk => exact z.elim fun _ y => y.elim fun _ y => y.2.elim
  | cont => exact z.elim fun _ y => y.elim fun _ y => y.2.elim
end
/-! ### a law's end -/
/-- where a law's call starts -/
structure StartG (K : PySem.W.Frag) (mg mb : Str → Option Value) (s : Shared) : Prop where
  kin : K.In s.heap
  ns : s.heap.Ns mainGlobals mg
  bs : s.heap.Ns builtinsNs mb
  bb : ∀ x : Str, x ≠ "__name__" → mb x = bootBuiltins x
  lim : s.heap.NoLimit
  gen : s.gens = #[]
abbrev lstO (vs : List Value) : Obj := { cls := .type "list", data := .seq vs.toArray }
/-- an abstract heap that tells of the script at most -/
structure ToldG (P : Program) (w : World) (K : PySem.W.Frag) (s : Shared) (H : Hp) (a : Addr) : Prop where
  ok : HOk P w H s.heap
  one : ∀ b, b ≠ a → H b = none
  out : H a ≠ none → K.lookup a = none
  only : Only H
section
variable {P : Program} {w : World} {K : PySem.W.Frag} {mg mb : Str → Option Value} {CX : CXT} {k : Nat} {fa a : Addr} {fd : FuncData} {x : Str} {sp : Sp} {s : Shared} {vs : List Value} {ns : List Int} {H : Hp}
theorem ToldG.env (T : ToldG P w K s H a) (S : StartG K mg mb s) (at_ : s.heap.get? a = some (lstO vs)) : K.In (hidT s.heap H) ∧ (hidT s.heap H).Ns mainGlobals mg ∧ Env0 P w K mg (hidT s.heap H) callerA [] s H := by
  have kin : K.In (hidT s.heap H) := fun b o e => by
    by_cases z : H b = none
    · exact hidT_get (S.kin b o e) z
    · obtain rfl : b = a := Classical.byContradiction fun n => z (T.one b n)
      exact nomatch e.symm.trans (T.out z)
  have sees : ∀ {b : Addr} {m : Str → Option Value}, s.heap.Ns b m → (hidT s.heap H).Ns b m := by
    rintro b m ⟨o, es, n, e, d, r⟩
    refine ⟨o, es, n, hidT_get e (T.one b fun z => ?_), d, r⟩
    subst z
    cases at_.symm.trans e
    exact nomatch (show Data.seq vs.toArray _ = Data.dict es n from d)
  obtain ⟨ml, l1, l2⟩ := S.lim
  exact ⟨kin, sees S.ns, rfl, ⟨kin, sees S.ns, ⟨mb, sees S.bs, S.bb⟩, ml, sees l1, l2⟩, fun _ _ => of_hidT, Nat.le_of_eq (hidT_size _ _), trivial, (fun _ z => nomatch z), T.ok, .of_eq S.gen⟩
abbrev TrueEnd (s : Shared) (r : Result) (s' : Shared) : Prop := r = .ok (.ret (.bool true)) ∧ OldK s.heap s'.heap ∧ s'.os = s.os ∧ AllBare s'.gens
/-- the call's end, told of such a heap -/
theorem ToldG.close (T : ToldG P w K s H a) {u : Value} {s' : Shared} (z : CE [] P w H s (fun v _ => v = .bl true) u s') : TrueEnd s (.ok (.ret u)) s' := by
  obtain ⟨v, H1, os, bare, un, ok1, rv, rfl⟩ := z
  obtain rfl : u = Value.bool true := rv
  refine ⟨rfl, OldK.of_keep fun b o e => ?_, os, bare⟩
  rcases T.only b with n | ⟨o1, xs, n⟩
  · exact un.keep b o e n (fun z => nomatch z) (fun z => nomatch z)
  · have h1 := (T.ok b _ n).1
    have h2 := (ok1 b _ (un.frzs b o1 _ n)).1
    exact h2.trans (h1.symm.trans e)
theorem ToldG.call (T : ToldG P w K s H a) (S : StartG K mg mb s) (at_ : s.heap.get? a = some (lstO vs)) (hr : Room k callerA) (F : ∀ base : Heap, K.In base → base.Ns mainGlobals mg → FnOkG P w K mg base CX k fa fd [x] sp)
    (bind : ∀ (s : Shared) (u : Value), BindsTo s fd ⟨[u], []⟩ [(x, u)]) (q : sp [.ref a] H (fun v _ => v = .bl true) fun _ _ _ => False) (hCX : ∀ H e s', CX [] H s (fun _ _ _ => False) e s' → False) : codeAny (model P w) callerA (.call (.ref fa) ⟨[.ref a], []⟩) (TrueEnd s) s := by
  obtain ⟨kin, gl, e0⟩ := T.env S at_
  refine codeAny_mono ((F _ kin gl).go callerA [] s H _ [.ref a] [.ref a] _ _ hr rfl e0 (bind s _) (.cons rfl .nil) q) fun r s1 z => ?_
  match r, z with
  | .error e, z => exact (hCX H e s1 z).elim
  | .ok (.ret u), z => exact T.close z
/-- the script, told as what it is: the module's own list, or a list that stays -/
theorem told_of (S : StartG K mg mb s) (at_ : s.heap.get? a = some (lstO vs)) (hi : IntsAre vs ns) (hl : ns.length ≤ sizeLine) : ∃ H, ToldG P w K s H a ∧ SqL K H a (ns.map V.int) := by
  have rv := vals_ints hi
  by_cases z : K.lookup a = none
  · have val : ∀ b u, (if b = a then some (HO.frz (lstO vs) (.lst (ns.map V.int))) else none) = some u → b = a ∧ u = .frz (lstO vs) (.lst (ns.map V.int)) := fun b u e => by
      split at e
      · exact ⟨‹_›, (Option.some.inj e).symm⟩
      · cases e
    refine ⟨fun b => if b = a then some (.frz (lstO vs) (.lst (ns.map V.int))) else none, ⟨fun b u e => ?_, fun b n => if_neg n, fun _ => z, fun b => ?_⟩, .inl (.inr ⟨lstO vs, if_pos rfl⟩)⟩
    · obtain ⟨rfl, rfl⟩ := val b u e
      exact ⟨at_, by rw [List.length_map]; exact hl, vs, _, rv, at_⟩
    · by_cases y : b = a
      · exact .inr ⟨_, _, if_pos y⟩
      · exact .inl (if_neg y)
  · obtain ⟨o, e⟩ := Option.ne_none_iff_exists'.mp z
    cases at_.symm.trans (S.kin a o e)
    exact ⟨fun _ => none, ⟨(fun b u e => nomatch e), fun _ _ => rfl, fun n => absurd rfl n, fun _ => .inl rfl⟩, .inr ⟨_, vs.toArray, _, e, rfl, rfl, rfl, by rw [List.size_toArray, hi.length]; exact hl, by simpa using rv⟩⟩
end
theorem walk_ofEG {l : PySem.W.OpenLaw} {n k : Nat} {q : Program} {loose : List Str} {XP : (Str → Option Value) → Heap → Prop} {YP : World → Heap → Prop} {d : DefRec} {CX : CXT} {x : Str} (hn : l.most = some n) (hn2 : n ≤ sizeLine) (hdf : d.params.defaults = []) (hr : Room k callerA)
    (F : ∀ (w : World) (mg : Str → Option Value) (fa : Addr) (h : Heap), YP w h → h.Ns mainGlobals mg → mg d.name = some (.ref fa) → ∃ (K : PySem.W.Frag) (fd : FuncData) (sp : Sp), K.In h ∧ (∀ (s : Shared) (u : Value), BindsTo s fd ⟨[u], []⟩ [(x, u)]) ∧
      (∀ (H : Hp) (a : Addr) (ns : List Int), ns.length ≤ n → Only H → SqL K H a (ns.map V.int) → sp [.ref a] H (fun v _ => v = .bl true) fun _ _ _ => False) ∧ ∀ base : Heap, K.In base → base.Ns mainGlobals mg → FnOkG l.prog w K mg base CX k fa fd [x] sp)
    (hCX : ∀ (H : Hp) (s : Shared) (e : Value) (s' : Shared), CX [] H s (fun _ _ _ => False) e s' → False) : PySem.W.WalkO q loose XP YP l.row.toRowW d [] (fun f vs => PySem.call f vs) := by
  refine Att.attach_call hn hdf fun w s₀ s₁ mg mb fa o pm cd doc a vs ns G Y _ _ _ hmg at_ hi hl hg => ?_
  obtain ⟨K, fd, sp, kin, bind, says, ok⟩ := F w mg fa _ Y G.T.g hmg
  have S : StartG K mg mb s₁ := ⟨kin, G.T.g, G.T.b, G.T.builtins, G.T.nolimit, hg⟩
  obtain ⟨H, T, sq⟩ := told_of (P := l.prog) (w := w) S at_ hi (Nat.le_trans hl hn2)
  exact T.call S at_ hr ok bind (says H a ns hl T.only sq) fun H e s' => hCX H s₁ e s'
end L2
/-! V1: value trees, a small syntax with slots, its evaluator. -/
namespace VL
open PySem

/-- a value tree: leaves, tuples, lists, dicts (n: keys are tuples), immutable records of own classes, cells with identity, defs and classes by name, built-in classes -/
inductive D where
  | non | bl (b : Bool) | int (i : Int) | str (x : Str)
  | tup (xs : List D) | lst (xs : List D) | dic (n : Bool) (kvs : List (NestedKey × D))
  | ins (c : Str) (fs : List (Str × D)) | cel (i : Nat) | glo (x : Str) | typ (n : String) | scr (is : List Int)
  | exn (c : Str) (fs : List D) | raw (v : L2.V)
  deriving Inhabited

abbrev G := List (List D)

/-! ### keys -/
mutual
def D.key : D → Option NestedKey
  | .int i => some (.num i)
  | .str x => some (.text x)
  | .tup xs => (D.keys xs).map .tup
  | .non => none | .bl _ => none | .lst _ => none | .dic _ _ => none | .ins _ _ => none | .cel _ => none | .glo _ => none | .typ _ => none | .scr _ => none | .exn _ _ => none | .raw _ => none
def D.keys : List D → Option (List NestedKey)
  | [] => some []
  | d :: ds => (D.key d).bind fun k => (D.keys ds).map fun ks => k :: ks
end
mutual
def ofKey : NestedKey → D
  | .none => .non
  | .num i => .int i
  | .text x => .str x
  | .tup ks => .tup (ofKeys ks)
def ofKeys : List NestedKey → List D
  | [] => []
  | k :: ks => ofKey k :: ofKeys ks
end
/-- is it a tuple's key -/
def tupKey : NestedKey → Bool
  | .tup _ => true
  | _ => false
/-- is it an int's or a text's key -/
def leafKey : NestedKey → Bool
  | .num _ => true
  | .text _ => true
  | _ => false
def keyFits (n : Bool) (k : NestedKey) : Bool := if n then tupKey k && decide (k.depth ≤ 8) else leafKey k
def look {α : Type} (kvs : List (NestedKey × α)) (k : NestedKey) : Option α := (kvs.find? fun p => decide (p.1 = k)).map (·.2)
def put {α : Type} (kvs : List (NestedKey × α)) (k : NestedKey) (v : α) : List (NestedKey × α) :=
  if kvs.any (fun p => decide (p.1 = k)) then kvs.map (fun p => if p.1 = k then (p.1, v) else p) else kvs ++ [(k, v)]
def drop {α : Type} (kvs : List (NestedKey × α)) (k : NestedKey) : List (NestedKey × α) := kvs.filter fun p => !decide (p.1 = k)
def puts {α : Type} (kvs more : List (NestedKey × α)) : List (NestedKey × α) := more.foldl (fun acc p => put acc p.1 p.2) kvs

/-! ### how deep things that may change lie -/
mutual
def D.mdep : D → Nat
  | .tup xs => D.mdeps xs
  | .lst xs => 1 + D.mdeps xs
  | .dic _ kvs => 1 + D.mdepk kvs
  | .ins _ _ => 100
  | .non => 0 | .bl _ => 0 | .int _ => 0 | .str _ => 0 | .cel _ => 0 | .glo _ => 0 | .typ _ => 0 | .scr _ => 100 | .exn _ _ => 100 | .raw _ => 100
def D.mdeps : List D → Nat
  | [] => 0
  | d :: ds => max (D.mdep d) (D.mdeps ds)
def D.mdepk : List (NestedKey × D) → Nat
  | [] => 0
  | (_, d) :: r => max (D.mdep d) (D.mdepk r)
end

/-! ### data: what == and < are about -/
mutual
def D.data : D → Option PyData
  | .non => some .none
  | .bl b => some (.bool b)
  | .int i => some (.int i)
  | .str x => some (.str x)
  | .tup xs => (D.datas xs).map .tuple
  | .lst xs => (D.datas xs).map .list
  | .dic _ _ => none | .ins _ _ => none | .cel _ => none | .glo _ => none | .typ _ => none | .scr _ => none | .exn _ _ => none | .raw _ => none
def D.datas : List D → Option (List PyData)
  | [] => some []
  | d :: ds => (D.data d).bind fun k => (D.datas ds).map fun ks => k :: ks
end

/-! ### what repr is about -/
def keyPyd : NestedKey → Option PyData
  | .num i => some (.int i)
  | .text x => some (.str x)
  | _ => none
mutual
def D.pyd : D → Option PyData
  | .non => some .none
  | .bl b => some (.bool b)
  | .int i => some (.int i)
  | .str x => some (.str x)
  | .tup xs => (D.pyds xs).map .tuple
  | .lst xs => (D.pyds xs).map .list
  | .dic n kvs => if n then none else (D.pydk kvs).map .dict
  | .ins _ _ => none | .cel _ => none | .glo _ => none | .typ _ => none | .scr _ => none | .exn _ _ => none | .raw _ => none
def D.pyds : List D → Option (List PyData)
  | [] => some []
  | d :: ds => (D.pyd d).bind fun k => (D.pyds ds).map fun ks => k :: ks
def D.pydk : List (NestedKey × D) → Option (List (PyData × PyData))
  | [] => some []
  | (k, d) :: ds => (keyPyd k).bind fun kk => (D.pyd d).bind fun dd => (D.pydk ds).map fun ks => (kk, dd) :: ks
end
def reprOk (p : PyData) : Bool := p.showable && (decide (p.depth ≤ 60) && decide (p.shown.length ≤ 1000000))
def reprD (d : D) : Option Str := d.pyd.bind fun p => if reprOk p then some p.shown else none
/-- which own errors are of which class -/
def excSub (c' c : Str) : Bool := decide (c' = c) || (decide (c = "PostError") || decide (c = "ValueError"))
def isxD (ns : List Str) (c : Str) : D → Option Bool
  | .exn c' _ => if ns.contains c' then some (excSub c' c) else none
  | _ => none
/-! ### the syntax -/
inductive BO where | add | sub | mul | fdiv | mod | pow
  deriving DecidableEq
inductive CO where | eq | ne | lt | le | gt | ge | isin | notin | is | isnot
  deriving DecidableEq
/-- built-in functions and classes that are called -/
inductive Bui where
  | len | sorted | all | any | list | tuple | dict0 | dict | sum | max | min | max2 | min2 | int | repr
  deriving DecidableEq
/-- methods of built-in classes that change nothing -/
inductive Bme where
  | get1 | get2 | keys | split | splitw | join | count | index | bitlen
  deriving DecidableEq
/-- what is walked -/
inductive ItK where
  | val | keys | rng1 | rng2 | rng3 | enu | zip | items | vals | rev
  deriving DecidableEq
/-- built-in classes in isinstance -/
inductive Tg where
  | nm (i : Nat) | tp (is : List Nat)

inductive Ex where
  | nev | orv (isAnd : Bool) (es : List Ex)
  | non | bl (b : Bool) | int (i : Int) | str (x : Str)
  | var (i : Nat)
  | glo (x : Str)
  | con (x : Str) (c : D)
  | tup (es : List Ex) | lst (es : List Ex) | dic (n : Bool) (kvs : List Ex)
  | neg (a : Ex) | bin (o : BO) (a b : Ex) | cmp (o : CO) (a b : Ex) | cm2 (o p : CO) (a b c : Ex)
  | bop (isAnd : Bool) (es : List Ex) | not (a : Ex) | ite (c a b : Ex)
  | sub (a b : Ex) | sli (a : Ex) (lo hi : List Ex) | rev (a : Ex)
  | att (c : Str) (a : Ex) (f : Str)
  | cal (f : Str) (es : List Ex) | mak (c : Str) (es : List Ex) | mth (c m key : Str) (o : Ex) (es : List Ex)
  | bui (b : Bui) (es : List Ex) | bme (b : Bme) (o : Ex) (es : List Ex)
  | isi (a : Ex) (ts : List String) | isc (a : Ex) (c : Str)
  | lc (t : Tg) (k : ItK) (ies : List Ex) (ifs : List Ex) (elt : Ex)
  | lc2 (t : Tg) (k : ItK) (ies : List Ex) (ifs : List Ex) (t2 : Tg) (k2 : ItK) (ies2 : List Ex) (ifs2 : List Ex) (elt : Ex)
  | dc (n : Bool) (t : Tg) (k : ItK) (ies : List Ex) (ifs : List Ex) (key val : Ex)
  | upd (n : Bool) (a : Ex) (kvs : List Ex)
  | err (c : Str) (es : List Ex) | exb (c : Str) | isx (ns : List Str) (a : Ex) (c : Str) | atv (ns : List Str) (a : Ex)

abbrev Env := List (Option D)

/-! ### what values do -/
def sz (n : Nat) : Bool := decide (n ≤ 1000000)
def truth : D → Option Bool
  | .bl b => some b
  | .int i => some (i != 0)
  | .str x => if sz x.length then some (x.length != 0) else none
  | .lst xs => some (!xs.isEmpty)
  | .tup xs => some (!xs.isEmpty)
  | .dic false kvs => some (!kvs.isEmpty)
  | .non => some false
  | _ => none

def mulOk (i j : Int) : Bool := decide (-(2 ^ 64) < i ∧ i < 2 ^ 64) || decide (-(2 ^ 64) < j ∧ j < 2 ^ 64)
def binop : BO → D → D → Option D
  | .add, .int i, .int j => some (.int (i + j))
  | .add, .str x, .str y => if sz (x.length + y.length) then some (.str (x ++ y)) else none
  | .add, .lst xs, .lst ys => if sz (xs.length + ys.length) then some (.lst (xs ++ ys)) else none
  | .add, .tup xs, .tup ys => if sz (xs.length + ys.length) && (D.mdeps xs == 0 && D.mdeps ys == 0) then some (.tup (xs ++ ys)) else none
  | .sub, .int i, .int j => some (.int (i - j))
  | .mul, .int i, .int j => if mulOk i j then some (.int (i * j)) else none
  | .mul, .lst xs, .int j => if decide (0 ≤ j) && decide (j < 2 ^ 63) && sz (xs.length * j.toNat) then some (.lst ((List.replicate j.toNat xs).flatten)) else none
  | .fdiv, .int i, .int j => if decide (0 < j) && decide (j < 1073741824) then some (.int (i / j)) else none
  | .mod, .int i, .int j => if decide (0 < j) then some (.int (i % j)) else none
  | .pow, .int i, .int j => if decide (0 ≤ j) && decide ((Builtin.Int.intBits i : Int) * j ≤ 2 ^ 27) then some (.int (i ^ j.toNat)) else none
  | _, _, _ => none

/-- a slice -/
def cut {α : Type} (xs : List α) (lo hi : Option Int) : List α := (xs.drop (HT.sIx xs.length 0 lo)).take (HT.sIx xs.length xs.length hi - HT.sIx xs.length 0 lo)

def cellAt (g : G) : D → Option (List D)
  | .cel i => g[i]?
  | _ => none

def subscr (g : G) : D → D → Option D
  | .lst xs, .int i => L2.atI xs i
  | .tup xs, .int i => L2.atI xs i
  | .str x, .int i => if sz x.length then (L2.atI x.cps.toList i).map fun c => .str ⟨#[c]⟩ else none
  | .dic n kvs, k => k.key.bind fun kk => if keyFits n kk then look kvs kk else none
  | .cel c, .int i => ((g : List (List D))[c]?).bind fun xs => L2.atI xs i
  | _, _ => none

def leafEq : D → D → Option Bool
  | .int i, .int j => some (decide (i = j))
  | .str x, .str y => some (decide (x = y))
  | .bl a, .bl b => some (decide (a = b))
  | _, _ => none
def strPair : D → D → Option (Str × Str)
  | .str x, .str y => some (x, y)
  | _, _ => none
/-- == -/
def eqD (a b : D) : Option Bool := match strPair a b with
  | some p => some (decide (p.1 = p.2))
  | none => a.data.bind fun x => b.data.bind fun y => if SeqAt.shaped x && SeqAt.shaped y then some (PyData.eqv x y) else none
def notNone : PyData → Bool
  | .none => false
  | _ => true
/-- < -/
def ltD (a b : D) : Option Bool := a.data.bind fun x => b.data.bind fun y => if PySem.W.alike x y && (x.depth ≤ 60 : Bool) && notNone x then some (PySem.W.dataLt x y) else none
def inD (x : D) : D → Option Bool
  | .dic n kvs => x.key.bind fun k => if keyFits n k then some (look kvs k).isSome else none
  | .lst ys => x.data.bind fun dx => (D.datas ys).bind fun dys => if SeqAt.shaped dx && SeqAt.shaped (.list dys) then some (dys.any fun y => PyData.eqv y dx) else none
  | .tup ys => x.data.bind fun dx => (D.datas ys).bind fun dys => if SeqAt.shaped dx && SeqAt.shaped (.list dys) then some (dys.any fun y => PyData.eqv y dx) else none
  | .str z => match x with
    | .str ⟨⟨[c]⟩⟩ => some (decide (c ∈ z.cps.toList))
    | _ => none
  | _ => none
def isD : D → D → Option Bool
  | .non, .non => some true
  | .bl _, .non => some false
  | .int _, .non => some false
  | .str _, .non => some false
  | .lst _, .non => some false
  | .tup _, .non => some false
  | .dic _ _, .non => some false
  | .ins _ _, .non => some false
  | .cel _, .non => some false
  | .glo _, .non => some false
  | .scr _, .non => some false
  | .bl a, .bl b => some (a == b)
  | _, _ => none
def cmpD : CO → D → D → Option Bool
  | .eq, a, b => eqD a b
  | .ne, a, b => (eqD a b).map not
  | .lt, a, b => ltD a b
  | .gt, a, b => ltD b a
  | .le, a, b => (ltD b a).map not
  | .ge, a, b => (ltD a b).map not
  | .isin, a, b => inD a b
  | .notin, a, b => (inD a b).map not
  | .is, a, b => isD a b
  | .isnot, a, b => (isD a b).map not

def D.depthOk (d : PyData) : Bool := decide (d.depth ≤ 60)
/-- sorted by <: a list's items, a dict's keys -/
def dle (a b : D) : Bool := match a.data, b.data with
  | some x, some y => !PySem.W.dataLt y x
  | _, _ => false
def tupsOk : List PyData → Bool
  | .tuple (_ :: _) :: r => tupsOk r
  | [] => true
  | _ => false
def notTup : PyData → Bool
  | .tuple _ => false
  | .none => false
  | _ => true
def sortable (xs : List D) : Bool := match D.datas xs with
  | some ds => (tupsOk ds || ds.all notTup) && ds.all (fun x => ds.all fun y => PySem.W.alike x y) && ds.all (fun x => D.depthOk x) && sz xs.length
  | none => false
def sortD (xs : List D) : Option (List D) := if sortable xs then some (xs.mergeSort dle) else none
/-- what list(x) holds -/
def itemsOf (g : G) : D → Option (List D)
  | .lst xs => some xs
  | .tup xs => some xs
  | .dic _ kvs => some (kvs.map fun p => ofKey p.1)
  | .str x => some (x.cps.toList.map fun c => .str ⟨#[c]⟩)
  | _ => none
def asBool : D → Option Bool
  | .bl b => some b
  | _ => none
def asInt : D → Option Int
  | .int i => some i
  | _ => none
def asStr : D → Option Str
  | .str x => some x
  | _ => none
def allSome {α : Type} : List (Option α) → Option (List α)
  | [] => some []
  | x :: r => x.bind fun a => (allSome r).map fun as => a :: as
def pairOf : D → Option (NestedKey × D)
  | .tup [k, v] => k.key.map fun kk => (kk, v)
  | _ => none
def joinS (sep : Str) : List Str → Str
  | [] => ⟨#[]⟩
  | [x] => x
  | x :: r => x ++ sep ++ joinS sep r
def bui (g : G) : Bui → List D → Option D
  | .len, [.lst xs] => if sz xs.length then some (.int xs.length) else none
  | .len, [.scr xs] => if sz xs.length then some (.int xs.length) else none
  | .len, [.tup xs] => if sz xs.length then some (.int xs.length) else none
  | .len, [.str x] => if sz x.length then some (.int x.length) else none
  | .len, [.dic _ kvs] => if sz kvs.length then some (.int kvs.length) else none
  | .sorted, [d] => match d with
    | .lst xs => (sortD xs).map .lst
    | .tup xs => (sortD xs).map .lst
    | .dic _ kvs => (sortD (kvs.map fun p => ofKey p.1)).map .lst
    | _ => none
  | .all, [.lst xs] => (allSome (xs.map asBool)).map fun bs => .bl (bs.all id)
  | .any, [.lst xs] => (allSome (xs.map asBool)).map fun bs => .bl (bs.any id)
  | .list, [d] => (itemsOf g d).bind fun xs => if sz xs.length then some (.lst xs) else none
  | .tuple, [.lst xs] => some (.tup xs)
  | .tuple, [.tup xs] => some (.tup xs)
  | .dict, [.lst xs] => (allSome (xs.map pairOf)).bind fun kvs => if kvs.all (fun p => keyFits false p.1) && sz kvs.length then some (.dic false (puts [] kvs)) else none
  | .sum, [.lst xs] => (allSome (xs.map asInt)).map fun is => .int is.sum
  | .max2, [.int i, .int j] => some (.int (if j > i then j else i))
  | .min2, [.int i, .int j] => some (.int (if j < i then j else i))
  | .int, [.int i] => some (.int i)
  | .int, [.bl b] => some (.int (if b then 1 else 0))
  | .int, [.str x] => if x.length ≤ 640 then (PySem.intText? x).map .int else none
  | .repr, [d] => (reprD d).map .str
  | _, _ => none
def bme (g : G) : Bme → D → List D → Option D
  | .get1, .dic n kvs, [k] => k.key.bind fun kk => if keyFits n kk then some ((look kvs kk).getD .non) else none
  | .get2, .dic n kvs, [k, x] => k.key.bind fun kk => if keyFits n kk then some ((look kvs kk).getD x) else none
  | .keys, .dic _ _, [] => none
  | .split, .str x, [.str y] => if y.length != 0 && sz x.length then some (.lst ((Txt.split x y).map .str)) else none
  | .join, .str x, [.lst ys] => (allSome (ys.map asStr)).bind fun zs => if sz ((zs.map (·.length)).sum + x.length * zs.length) then some (.str (Txt.join x zs)) else none
  | .bitlen, .int i, [] => some (.int (Builtin.Int.intBits i : Nat))
  | _, _, _ => none
/-- the name of a value's built-in class -/
def tyD : D → Option String
  | .non => some "NoneType"
  | .bl _ => some "bool"
  | .int _ => some "int"
  | .str _ => some "str"
  | .lst _ => some "list"
  | .tup _ => some "tuple"
  | .dic _ _ => some "dict"
  | _ => none
def subT (a b : String) : Bool := a == b || (a == "bool" && b == "int")
def isiD (ts : List String) (d : D) : Option Bool := (tyD d).bind fun a => if ts.all (fun t => ["str", "int", "bool", "list", "tuple", "dict"].contains t) then some (ts.any (subT a)) else none
def iscD (c : Str) : D → Option Bool
  | .ins c' _ => if c' = c then some true else none
  | d => (tyD d).map fun _ => false
def rngOk (i j : Int) : Bool := decide (-(2 ^ 60) < i ∧ i < 2 ^ 60 ∧ -(2 ^ 60) < j ∧ j < 2 ^ 60)
def rngL (i : Int) (n : Nat) : List D := (List.range n).map fun (k : Nat) => D.int (i + (k : Int))
/-- what is walked, item by item -/
def iter (g : G) : ItK → List D → Option (List D)
  | .val, [.lst xs] => some xs
  | .val, [.tup xs] => some xs
  | .val, [.str x] => some (x.cps.toList.map fun c => .str ⟨#[c]⟩)
  | .keys, [.dic _ kvs] => some (kvs.map fun p => ofKey p.1)
  | .rng1, [.int j] => if rngOk 0 j then some (rngL 0 j.toNat) else none
  | .rng2, [.int i, .int j] => if rngOk i j then some (rngL i (j - i).toNat) else none
  | .enu, [.lst xs] => some (xs.zipIdx.map fun p => .tup [.int (p.2 : Int), p.1])
  | .zip, [.lst xs, .lst ys] => some ((xs.zip ys).map fun p => .tup [p.1, p.2])
  | .items, [.dic false kvs] => some (kvs.map fun p => .tup [ofKey p.1, p.2])
  | .vals, [.dic _ kvs] => some (kvs.map fun p => p.2)
  | _, _ => none
def bindT (t : Tg) (d : D) (env : Env) : Option Env := match t with
  | .nm i => some (env.set i (some d))
  | .tp is => match d with
    | .tup xs => if xs.length = is.length then some ((is.zip xs).foldl (fun e p => e.set p.1 (some p.2)) env) else none
    | _ => none

def slots : Tg → List Nat
  | .nm i => [i]
  | .tp is => is
/-- slots forgotten -/
def wipeE (env : Env) : List Nat → Env
  | [] => env
  | v :: vs => (wipeE env vs).set v none
/-- the loop of a comprehension -/
def lcLoop {β : Type} (f : D → G → Option (Option β × G)) : List D → G → Option (List β × G)
  | [], g => some ([], g)
  | x :: r, g => (f x g).bind fun y => (lcLoop f r y.2).map fun z => ((match y.1 with | some b => b :: z.1 | none => z.1), z.2)
/-- two clauses: the inner lists, one behind the other -/
def lcFlat {β : Type} (f : D → G → Option (Option (List β) × G)) (xs : List D) (g : G) : Option (List β × G) :=
  (lcLoop f xs g).map fun z => (z.1.flatten, z.2)

/-- keys and values in turn -/
def pairUp : List D → Option (List (NestedKey × D))
  | [] => some []
  | k :: v :: r => k.key.bind fun kk => (pairUp r).map fun t => (kk, v) :: t
  | _ => none
def endOf : List D → Option (Option Int)
  | [] => some none
  | [.int i] => if decide (-(2 ^ 60) < i) && decide (i < 2 ^ 60) then some (some i) else none
  | _ => none
def sliD (d : D) (lo hi : Option Int) : Option D := match d with
  | .lst xs => if sz xs.length then some (.lst (cut xs lo hi)) else none
  | .scr is => if sz is.length then some (.lst ((cut is lo hi).map .int)) else none
  | .tup xs => if sz xs.length && D.mdeps xs == 0 then some (.tup (cut xs lo hi)) else none
  | .str x => if sz x.length then some (.str ⟨(cut x.cps.toList lo hi).toArray⟩) else none
  | _ => none
def revD : D → Option D
  | .lst xs => if sz xs.length then some (D.lst xs.reverse) else none
  | _ => none
def attD (c f : Str) : D → Option D
  | .ins c' fs => if c' = c then fs.lookup f else none
  | _ => none
def isIns (c m : Str) : D → Bool
  | .ins c' fs => decide (c' = c) && (fs.lookup m).isNone
  | _ => false
def dicD (n : Bool) : D → Option (List (NestedKey × D))
  | .dic n' kvs => if n' == n then some kvs else none
  | _ => none
def mkErr (c : Str) : List D → Option D
  | [] => some (.exn c [.non])
  | [d] => some (.exn c [d])
  | _ => none
def atvD (ns : List Str) : D → Option D
  | .exn c [d] => if ns.contains c then some d else none
  | _ => none
/-- what the defs, classes and methods that are called do -/
abbrev Phi := Str → List D → G → Option (D × G)

mutual
def ev (Φ : Phi) : Ex → Env → G → Option (D × G)
  | .nev, _, _ => none
  | .orv isAnd es, env, g => evo Φ isAnd es env g
  | .non, _, g => some (.non, g)
  | .bl b, _, g => some (.bl b, g)
  | .int i, _, g => some (.int i, g)
  | .str x, _, g => some (.str x, g)
  | .var i, env, g => (env[i]?.join).map fun d => (d, g)
  | .glo x, _, g => some (.glo x, g)
  | .con _ c, _, g => some (c, g)
  | .tup es, env, g => (evs Φ es env g).bind fun r => if sz r.1.length then some (.tup r.1, r.2) else none
  | .lst es, env, g => (evs Φ es env g).bind fun r => if sz r.1.length then some (.lst r.1, r.2) else none
  | .dic n kvs, env, g => (evs Φ kvs env g).bind fun s => (pairUp s.1).bind fun r1 => let r := (r1, s.2); if r.1.all (fun p => keyFits n p.1) && sz r.1.length then some (.dic n (puts [] r.1), r.2) else none
  | .neg a, env, g => (ev Φ a env g).bind fun r => (asInt r.1).map fun i => (.int (-i), r.2)
  | .bin o a b, env, g => (ev Φ a env g).bind fun r => (ev Φ b env r.2).bind fun s => (binop o r.1 s.1).map fun d => (d, s.2)
  | .cmp o a b, env, g => (ev Φ a env g).bind fun r => (ev Φ b env r.2).bind fun s => (cmpD o r.1 s.1).map fun d => (.bl d, s.2)
  | .cm2 o p a b c, env, g => (ev Φ a env g).bind fun r => (ev Φ b env r.2).bind fun s => (cmpD o r.1 s.1).bind fun d =>
      if d then (ev Φ c env s.2).bind fun t => (cmpD p s.1 t.1).map fun d => (.bl d, t.2) else some (.bl false, s.2)
  | .bop isAnd es, env, g => (evb Φ isAnd es env g).map fun r => (.bl r.1, r.2)
  | .not a, env, g => (ev Φ a env g).bind fun r => (truth r.1).map fun b => (.bl (!b), r.2)
  | .ite c a b, env, g => (ev Φ c env g).bind fun r => (truth r.1).bind fun t => if t then ev Φ a env r.2 else ev Φ b env r.2
  | .sub a b, env, g => (ev Φ a env g).bind fun r => (ev Φ b env r.2).bind fun s => (subscr s.2 r.1 s.1).map fun d => (d, s.2)
  | .sli a lo hi, env, g => (ev Φ a env g).bind fun r => (evs Φ lo env r.2).bind fun s => (evs Φ hi env s.2).bind fun t => (endOf s.1).bind fun l => (endOf t.1).bind fun h => (sliD r.1 l h).map fun d => (d, t.2)
  | .rev a, env, g => (ev Φ a env g).bind fun r => (revD r.1).map fun d => (d, r.2)
  | .att c a f, env, g => (ev Φ a env g).bind fun r => (attD c f r.1).map fun d => (d, r.2)
  | .cal f es, env, g => (evs Φ es env g).bind fun r => Φ f r.1 r.2
  | .mak c es, env, g => (evs Φ es env g).bind fun r => Φ c r.1 r.2
  | .mth c m key o es, env, g => (ev Φ o env g).bind fun q => (evs Φ es env q.2).bind fun r => if isIns c m q.1 then Φ key (q.1 :: r.1) r.2 else none
  | .bui b es, env, g => (evs Φ es env g).bind fun r => (bui r.2 b r.1).map fun d => (d, r.2)
  | .bme b o es, env, g => (ev Φ o env g).bind fun q => (evs Φ es env q.2).bind fun r => (bme r.2 b q.1 r.1).map fun d => (d, r.2)
  | .isi a ts, env, g => (ev Φ a env g).bind fun r => (isiD ts r.1).map fun b => (.bl b, r.2)
  | .isc a c, env, g => (ev Φ a env g).bind fun r => (iscD c r.1).map fun b => (.bl b, r.2)
  | .lc t k ies ifs elt, env, g => (evs Φ ies env g).bind fun r => (iter r.2 k r.1).bind fun xs =>
      (lcLoop (fun x g => (bindT t x (wipeE env (slots t))).bind fun env' => (evb Φ true ifs env' g).bind fun c => if c.1 then (ev Φ elt env' c.2).map fun y => (some y.1, y.2) else some (none, c.2)) xs r.2).bind fun z =>
      if sz z.1.length then some (.lst z.1, z.2) else none
  | .lc2 t k ies ifs t2 k2 ies2 ifs2 elt, env, g => (evs Φ ies env g).bind fun r => (iter r.2 k r.1).bind fun xs =>
      (lcFlat (fun x g => (bindT t x (wipeE env (slots t ++ slots t2))).bind fun env' => (evb Φ true ifs env' g).bind fun c => if c.1 then
          (evs Φ ies2 env' c.2).bind fun r2 => (iter r2.2 k2 r2.1).bind fun ys =>
            (lcLoop (fun y g => (bindT t2 y (wipeE env' (slots t2))).bind fun env2 => (evb Φ true ifs2 env2 g).bind fun c2 => if c2.1 then (ev Φ elt env2 c2.2).map fun y => (some y.1, y.2) else some (none, c2.2)) ys r2.2).map fun z => (some z.1, z.2)
        else some (none, c.2)) xs r.2).bind fun z =>
      if sz z.1.length then some (.lst z.1, z.2) else none
  | .dc n t k ies ifs key val, env, g => (evs Φ ies env g).bind fun r => (iter r.2 k r.1).bind fun xs =>
      (lcLoop (fun x g => (bindT t x (wipeE env (slots t))).bind fun env' => (evb Φ true ifs env' g).bind fun c => if c.1 then
          (ev Φ key env' c.2).bind fun y => (ev Φ val env' y.2).bind fun w => y.1.key.bind fun kk => if keyFits n kk then some (some (kk, w.1), w.2) else none
        else some (none, c.2)) xs r.2).bind fun z =>
      if sz z.1.length then some (.dic n (puts [] z.1), z.2) else none
  | .upd n a kvs, env, g => (ev Φ a env g).bind fun r => (dicD n r.1).bind fun old => (evs Φ kvs env r.2).bind fun s => (pairUp s.1).bind fun new =>
      if new.all (fun p => keyFits n p.1) && sz (old.length + new.length) then some (.dic n (puts old new), s.2) else none
  | .err c es, env, g => (evs Φ es env g).bind fun r => (mkErr c r.1).map fun d => (d, r.2)
  | .exb c, env, g => some (.exn c [], g)
  | .isx ns a c, env, g => (ev Φ a env g).bind fun r => (isxD ns c r.1).map fun b => (.bl b, r.2)
  | .atv ns a, env, g => (ev Φ a env g).bind fun r => (atvD ns r.1).map fun d => (d, r.2)
def evs (Φ : Phi) : List Ex → Env → G → Option (List D × G)
  | [], _, g => some ([], g)
  | e :: es, env, g => (ev Φ e env g).bind fun r => (evs Φ es env r.2).map fun s => (r.1 :: s.1, s.2)
/-- and, or: from the left as far as wanted -/
def evb (Φ : Phi) (isAnd : Bool) : List Ex → Env → G → Option (Bool × G)
  | [], _, g => some (isAnd, g)
  | e :: es, env, g => (ev Φ e env g).bind fun r => (truth r.1).bind fun b => if b == isAnd then evb Φ isAnd es env r.2 else some (!isAnd, r.2)
/-- .. the operand that settles it -/
def evo (Φ : Phi) (isAnd : Bool) : List Ex → Env → G → Option (D × G)
  | [], _, _ => none
  | e :: es, env, g => (ev Φ e env g).bind fun r => match es with
    | [] => some r
    | _ :: _ => (truth r.1).bind fun b => if b == isAnd then evo Φ isAnd es env r.2 else some r
end
end VL
/-! V2: a value tree is laid in the abstract heap. -/
namespace VL
open PySem L2 PyProof.Rows

/-- a leaf's key in the hand layer's dicts -/
def lkey : NestedKey → Option Key
  | .num i => some (Sum.inl i)
  | .text x => some (Sum.inr x)
  | _ => none
/-- a dict whose keys are tuples -/
def dN (P : Program) (w : World) (a : Addr) (kvs : List (NestedKey × Addr × V)) : HO := .ext fun h =>
  kvs.length ≤ sizeLine ∧ (a == sysModules) = false ∧ ∃ xs : List (NestedKey × Addr × Value), Paired (fun p q => p.1 = q.1 ∧ p.2.1 = q.2.1 ∧ RelV p.2.2 q.2.2) kvs xs ∧ (xs.map (·.1)).Nodup ∧
    ∃ o es ep, h.get? a = some o ∧ o.ExactDict ∧ o.data = .dict es ep ∧ es.toList = xs.map (entryOfKey (nestedKind P w))

structure Gam where
  P : Program
  w : World
  K : PySem.W.Frag
  mg : Str → Option Value

mutual
/-- the key stands as a value -/
inductive KeyR (K : PySem.W.Frag) (H : Hp) : NestedKey → V → Prop
  | none : KeyR K H .none .non
  | num (i : Int) : KeyR K H (.num i) (.int i)
  | text (x : Str) : KeyR K H (.text x) (.str x)
  | tup {a : Addr} {vs : List V} {ks : List NestedKey} : SqT K H a vs → KeysR K H ks vs → KeyR K H (.tup ks) (.ref a)
inductive KeysR (K : PySem.W.Frag) (H : Hp) : List NestedKey → List V → Prop
  | nil : KeysR K H [] []
  | cons {k : NestedKey} {ks : List NestedKey} {v : V} {vs : List V} : KeyR K H k v → KeysR K H ks vs → KeysR K H (k :: ks) (v :: vs)
end

/-- the keys of a leaf dict -/
def KE (kvs : List (Key × V)) (ds : List (NestedKey × D)) : Prop := ds.map (fun p => lkey p.1) = kvs.map fun p => some p.1
/-- the keys of a dict with tuple keys -/
def NE (K : PySem.W.Frag) (H : Hp) : List (NestedKey × Addr × V) → List (NestedKey × D) → Prop :=
  Paired fun p q => p.1 = q.1 ∧ keyFits true q.1 = true ∧ KeyR K H q.1 (.ref p.2.1)
def KK (kvs : List (Key × V)) (ds : List (NestedKey × D)) : Prop := KE kvs ds ∧ (ds.map (·.1)).Nodup
def NN (K : PySem.W.Frag) (H : Hp) (kvs : List (NestedKey × Addr × V)) (ds : List (NestedKey × D)) : Prop := NE K H kvs ds ∧ (ds.map (·.1)).Nodup

/-- a list of ints that nobody changes -/
def ScrR (K : PySem.W.Frag) (H : Hp) (a : Addr) (is : List Int) : Prop := (∃ o, H a = some (.frz o (.lst (is.map V.int)))) ∨
  ∃ (o : Obj) (its : Array Value) (n : Nat), K.lookup a = some o ∧ o.cls = .type "list" ∧ o.dict = none ∧ o.data = .seq its n ∧ its.size ≤ sizeLine ∧ Vals (is.map V.int) its.toList
mutual
/-- v is d, its first n levels own (at O), the deeper ones shared (at S) -/
inductive Rep (Γ : Gam) (κ : List Addr) (H : Hp) : Nat → V → D → List Addr → List Addr → Prop
  | non {n} : Rep Γ κ H n .non .non [] []
  | bl {n b} : Rep Γ κ H n (.bl b) (.bl b) [] []
  | int {n i} : Rep Γ κ H n (.int i) (.int i) [] []
  | str {n x} : Rep Γ κ H n (.str x) (.str x) [] []
  | typ {n T} : Rep Γ κ H n (.ty T) (.typ T) [] []
  | cel {n i a} : κ[i]? = some a → Rep Γ κ H n (.ref a) (.cel i) [] []
  | glo {n x a} : Γ.mg x = some (.ref a) → Rep Γ κ H n (.ref a) (.glo x) [] []
  | tup {n a vs ds O S} : SqT Γ.K H a vs → RepL Γ κ H n vs ds O S → Rep Γ κ H n (.ref a) (.tup ds) O S
  | scr {n a is} : ScrR Γ.K H a is → Rep Γ κ H n (.ref a) (.scr is) [] []
  | scr1 {n a is} : H a = some (.lst (is.map V.int)) → a ∉ κ → Rep Γ κ H n (.ref a) (.scr is) [] [a]
  | lst0 {a vs ds O S} : H a = some (.lst vs) → a ∉ κ → RepL Γ κ H 0 vs ds O S → Rep Γ κ H 0 (.ref a) (.lst ds) O (a :: S)
  | lst {n a vs ds O S} : H a = some (.lst vs) → a ∉ κ → RepL Γ κ H n vs ds O S → Rep Γ κ H (n + 1) (.ref a) (.lst ds) (a :: O) S
  | dic0 {a kvs ds O S} : H a = some (.dK kvs) → KK kvs ds → RepL Γ κ H 0 (kvs.map (·.2)) (ds.map (·.2)) O S → Rep Γ κ H 0 (.ref a) (.dic false ds) O (a :: S)
  | dic {n a kvs ds O S} : H a = some (.dK kvs) → KK kvs ds → RepL Γ κ H n (kvs.map (·.2)) (ds.map (·.2)) O S → Rep Γ κ H (n + 1) (.ref a) (.dic false ds) (a :: O) S
  | nic0 {a kvs ds O S} : Rd H a (dN Γ.P Γ.w a kvs) → NN Γ.K H kvs ds → RepL Γ κ H 0 (kvs.map (·.2.2)) (ds.map (·.2)) O S → Rep Γ κ H 0 (.ref a) (.dic true ds) O (a :: S)
  | nic {n a kvs ds O S} : H a = some (dN Γ.P Γ.w a kvs) → NN Γ.K H kvs ds → RepL Γ κ H n (kvs.map (·.2.2)) (ds.map (·.2)) O S → Rep Γ κ H (n + 1) (.ref a) (.dic true ds) (a :: O) S
  | exn0 {n a C c} : H a = some (exo a C none) → Γ.mg c = some (.ref C) → Rep Γ κ H n (.ref a) (.exn c []) [] [a]
  | exn1 {n a dx C c v d O S} : H a = some (exo a C (some dx)) → H dx = some (exd dx [("value", v)]) → Γ.mg c = some (.ref C) → Rep Γ κ H 0 v d O S → Rep Γ κ H n (.ref a) (.exn c [d]) O (a :: dx :: S)
  | raw {n v} : Rep Γ κ H n v (.raw v) [] []
  | ins {n a C dx fvs c fs O S} : H a = some (.ins C dx fvs) → Γ.mg c = some (.ref C) → fvs.map (·.1) = fs.map (·.1) → RepL Γ κ H 0 (fvs.map (·.2)) (fs.map (·.2)) O S → Rep Γ κ H n (.ref a) (.ins c fs) O (a :: S)
inductive RepL (Γ : Gam) (κ : List Addr) (H : Hp) : Nat → List V → List D → List Addr → List Addr → Prop
  | nil {n} : RepL Γ κ H n [] [] [] []
  | cons {n v vs d ds O1 O2 S1 S2} : Rep Γ κ H n v d O1 S1 → RepL Γ κ H n vs ds O2 S2 → RepL Γ κ H n (v :: vs) (d :: ds) (O1 ++ O2) (S1 ++ S2)
end

/-- what stood off the cells stands -/
def Ext (κ : List Addr) (H H' : Hp) : Prop := ∀ a o, H a = some o → a ∉ κ → H' a = some o
/-- the cells are lists -/
def Cl (κ : List Addr) (H : Hp) : Prop := ∀ a, a ∈ κ → ∃ vs, H a = some (.lst vs)

section
variable {Γ : Gam} {κ κ' : List Addr} {H H' : Hp}
theorem Ext.refl : Ext κ H H := fun _ _ e _ => e
theorem exo_lst {e C : Addr} {d : Option Addr} (vs : List V) : exo e C d ≠ .lst vs := fun z => by
  have z' : HO.ext _ = HO.lst vs := z
  cases z'
theorem exd_lst {e : Addr} {fs : List (Str × V)} (vs : List V) : exd e fs ≠ .lst vs := fun z => by
  have z' : HO.ext _ = HO.lst vs := z
  cases z'
theorem Cl.no {a : Addr} {o : HO} (c : Cl κ H) (h : H a = some o) (ho : ∀ vs, o ≠ .lst vs) : a ∉ κ := fun z => by
  obtain ⟨ws, e⟩ := c a z; rw [h] at e; exact ho ws (Option.some.inj e)
theorem Ext.sqT {K : PySem.W.Frag} {a : Addr} {vs : List V} (x : Ext κ H H') (c : Cl κ H) (h : SqT K H a vs) : SqT K H' a vs := by
  rcases h with (h | ⟨o, h⟩) | h
  · exact .inl (.inl (x a _ h fun z => by obtain ⟨ws, e⟩ := c a z; rw [h] at e; cases e))
  · exact .inl (.inr ⟨o, x a _ h fun z => by obtain ⟨ws, e⟩ := c a z; rw [h] at e; cases e⟩)
  · exact .inr h
theorem Ext.scr {K : PySem.W.Frag} {a : Addr} {is : List Int} (x : Ext κ H H') (c : Cl κ H) (h : ScrR K H a is) : ScrR K H' a is := by
  rcases h with ⟨o, h⟩ | h
  · exact .inl ⟨o, x a _ h fun z => by obtain ⟨ws, e⟩ := c a z; rw [h] at e; cases e⟩
  · exact .inr h
theorem Ext.rd {a : Addr} {u : HO} (x : Ext κ H H') (c : Cl κ H) (h : Rd H a u) (hu : a ∉ κ ∨ ∀ vs, u ≠ .lst vs) : Rd H' a u := by
  rcases h with h | ⟨o, h⟩
  · refine .inl (x a _ h fun z => ?_)
    rcases hu with hu | hu
    · exact hu z
    · obtain ⟨ws, e⟩ := c a z; rw [h] at e; exact hu ws (Option.some.inj e)
  · exact .inr ⟨o, x a _ h fun z => by obtain ⟨ws, e⟩ := c a z; rw [h] at e; cases e⟩
theorem Ext.dom {a : Addr} (x : Ext κ H H') (c : Cl κ' H') (hk : ∀ a ∈ κ, a ∈ κ') (h : H' a = none) : H a = none := by
  cases e : H a with
  | none => rfl
  | some o =>
    by_cases z : a ∈ κ
    · obtain ⟨ws, e2⟩ := c a (hk a z); rw [h] at e2; cases e2
    · rw [x a o e z] at h; cases h

mutual
theorem KeyR.mono {K : PySem.W.Frag} (x : Ext κ H H') (c : Cl κ H) : ∀ {k : NestedKey} {v : V}, KeyR K H k v → KeyR K H' k v
  | _, _, .none => .none
  | _, _, .num i => .num i
  | _, _, .text y => .text y
  | _, _, .tup h r => .tup (x.sqT c h) (KeysR.mono x c r)
theorem KeysR.mono {K : PySem.W.Frag} (x : Ext κ H H') (c : Cl κ H) : ∀ {k : List NestedKey} {v : List V}, KeysR K H k v → KeysR K H' k v
  | _, _, .nil => .nil
  | _, _, .cons h r => .cons (KeyR.mono x c h) (KeysR.mono x c r)
end
/-- κ' holds κ at its beginning, and beyond it addresses that were free -/
def KExt (κ κ' : List Addr) (H : Hp) : Prop := κ <+: κ' ∧ ∀ a ∈ κ', a ∈ κ ∨ H a = none
theorem KExt.refl : KExt κ κ H := ⟨List.prefix_rfl, fun _ h => .inl h⟩
theorem KExt.get {i : Nat} {a : Addr} (k : KExt κ κ' H) (h : κ[i]? = some a) : κ'[i]? = some a := by
  obtain ⟨⟨t, e⟩, _⟩ := k
  rw [← e, List.getElem?_append_left (List.getElem?_eq_some_iff.mp h).1]; exact h
theorem KExt.sub (k : KExt κ κ' H) : ∀ a ∈ κ, a ∈ κ' := fun a h => k.1.subset h
theorem KExt.notin {a : Addr} {o : HO} (k : KExt κ κ' H) (h : H a = some o) (n : a ∉ κ) : a ∉ κ' := fun z => by
  rcases k.2 a z with q | q
  · exact n q
  · rw [h] at q; cases q
theorem NE.mono {K : PySem.W.Frag} (x : Ext κ H H') (c : Cl κ H) {kvs : List (NestedKey × Addr × V)} {ds : List (NestedKey × D)} (h : NE K H kvs ds) : NE K H' kvs ds :=
  Paired.mapP h fun p q ⟨a, b, e⟩ => ⟨a, b, KeyR.mono x c e⟩
theorem NN.mono {K : PySem.W.Frag} (x : Ext κ H H') (c : Cl κ H) {kvs : List (NestedKey × Addr × V)} {ds : List (NestedKey × D)} (h : NN K H kvs ds) : NN K H' kvs ds := ⟨h.1.mono x c, h.2⟩
mutual
theorem Rep.mono (x : Ext κ H H') (c : Cl κ H) (k : KExt κ κ' H) : ∀ {n : Nat} {v : V} {d : D} {O S : List Addr}, Rep Γ κ H n v d O S → Rep Γ κ' H' n v d O S
  | _, _, _, _, _, .non => .non
  | _, _, _, _, _, .bl => .bl
  | _, _, _, _, _, .int => .int
  | _, _, _, _, _, .str => .str
  | _, _, _, _, _, .typ => .typ
  | _, _, _, _, _, .cel h => .cel (k.get h)
  | _, _, _, _, _, .glo h => .glo h
  | _, _, _, _, _, .tup h r => .tup (x.sqT c h) (RepL.mono x c k r)
  | _, _, _, _, _, .scr h => .scr (x.scr c h)
  | _, _, _, _, _, .scr1 h n => .scr1 (x _ _ h n) (k.notin h n)
  | _, _, _, _, _, .lst0 h n r => .lst0 (x _ _ h n) (k.notin h n) (RepL.mono x c k r)
  | _, _, _, _, _, .lst h n r => .lst (x _ _ h n) (k.notin h n) (RepL.mono x c k r)
  | _, _, _, _, _, .dic0 h q r => .dic0 (x _ _ h (c.no h fun _ z => nomatch z)) q (RepL.mono x c k r)
  | _, _, _, _, _, .dic h q r => .dic (x _ _ h fun z => by obtain ⟨ws, e⟩ := c _ z; rw [h] at e; cases e) q (RepL.mono x c k r)
  | _, _, _, _, _, .nic0 h q r => .nic0 (x.rd c h (.inr fun _ z => nomatch z)) (q.mono x c) (RepL.mono x c k r)
  | _, _, _, _, _, .nic h q r => .nic (x _ _ h fun z => by obtain ⟨ws, e⟩ := c _ z; rw [h] at e; cases e) (q.mono x c) (RepL.mono x c k r)
  | _, _, _, _, _, .exn0 h g => .exn0 (x _ _ h (c.no h exo_lst)) g
  | _, _, _, _, _, .exn1 h h2 g r => .exn1 (x _ _ h (c.no h exo_lst)) (x _ _ h2 (c.no h2 exd_lst)) g (Rep.mono x c k r)
  | _, _, _, _, _, .raw => .raw
  | _, _, _, _, _, .ins h g q r => .ins (x _ _ h fun z => by obtain ⟨ws, e⟩ := c _ z; rw [h] at e; cases e) g q (RepL.mono x c k r)
theorem RepL.mono (x : Ext κ H H') (c : Cl κ H) (k : KExt κ κ' H) : ∀ {n : Nat} {v : List V} {d : List D} {O S : List Addr}, RepL Γ κ H n v d O S → RepL Γ κ' H' n v d O S
  | _, _, _, _, _, .nil => .nil
  | _, _, _, _, _, .cons h r => .cons (Rep.mono x c k h) (RepL.mono x c k r)
end
/-! ### the owned nodes, the shared nodes stand -/
def Dm (κ : List Addr) (H : Hp) (O S : List Addr) : Prop := (∀ a ∈ O, (∃ o, H a = some o) ∧ a ∉ κ) ∧ ∀ a ∈ S, (∃ o, H a = some o) ∧ a ∉ κ
theorem Dm.nil : Dm κ H [] [] := And.intro (fun _ h => by cases h) (fun _ h => by cases h)
theorem Dm.app {O1 O2 S1 S2 : List Addr} (x : Dm κ H O1 S1) (y : Dm κ H O2 S2) : Dm κ H (O1 ++ O2) (S1 ++ S2) :=
  ⟨fun a q => (List.mem_append.mp q).elim (x.1 a) (y.1 a), fun a q => (List.mem_append.mp q).elim (x.2 a) (y.2 a)⟩
theorem Dm.own {O S : List Addr} {a : Addr} {o : HO} (x : Dm κ H O S) (h : H a = some o) (n : a ∉ κ) : Dm κ H (a :: O) S :=
  ⟨fun b q => by
    rcases List.mem_cons.mp q with rfl | q
    · exact ⟨⟨_, h⟩, n⟩
    · exact x.1 b q, x.2⟩
theorem Dm.sh {O S : List Addr} {a : Addr} {o : HO} (x : Dm κ H O S) (h : Rd H a o) (n : a ∉ κ) : Dm κ H O (a :: S) :=
  ⟨x.1, fun b q => by
    rcases List.mem_cons.mp q with rfl | q
    · rcases h with h | ⟨_, h⟩ <;> exact ⟨⟨_, h⟩, n⟩
    · exact x.2 b q⟩
theorem Cl.noR {a : Addr} {o : HO} (c : Cl κ H) (h : Rd H a o) (ho : ∀ vs, o ≠ .lst vs) : a ∉ κ := by
  rcases h with h | ⟨_, h⟩
  · exact c.no h ho
  · exact c.no h fun _ z => nomatch z
mutual
theorem Rep.dom (c : Cl κ H) : ∀ {n : Nat} {v : V} {d : D} {O S : List Addr}, Rep Γ κ H n v d O S → Dm κ H O S
  | _, _, _, _, _, .non => .nil
  | _, _, _, _, _, .bl => .nil
  | _, _, _, _, _, .int => .nil
  | _, _, _, _, _, .str => .nil
  | _, _, _, _, _, .typ => .nil
  | _, _, _, _, _, .cel h => .nil
  | _, _, _, _, _, .glo h => .nil
  | _, _, _, _, _, .tup h r => RepL.dom c r
  | _, _, _, _, _, .scr h => .nil
  | _, _, _, _, _, .scr1 h n => Dm.sh .nil (.inl h) n
  | _, _, _, _, _, .lst0 h n r => (RepL.dom c r).sh (.inl h) n
  | _, _, _, _, _, .lst h n r => (RepL.dom c r).own h n
  | _, _, _, _, _, .dic0 h q r => (RepL.dom c r).sh (.inl h) (c.no h fun _ z => nomatch z)
  | _, _, _, _, _, .dic h q r => (RepL.dom c r).own h (c.no h fun _ z => nomatch z)
  | _, _, _, _, _, .nic0 h q r => (RepL.dom c r).sh h (c.noR h fun _ z => nomatch z)
  | _, _, _, _, _, .nic h q r => (RepL.dom c r).own h (c.no h fun _ z => nomatch z)
  | _, _, _, _, _, .exn0 h g => Dm.sh .nil (.inl h) (c.no h exo_lst)
  | _, _, _, _, _, .exn1 h h2 g r => ((Rep.dom c r).sh (.inl h2) (c.no h2 exd_lst)).sh (.inl h) (c.no h exo_lst)
  | _, _, _, _, _, .raw => .nil
  | _, _, _, _, _, .ins h g q r => (RepL.dom c r).sh (.inl h) (c.no h fun _ z => nomatch z)
theorem RepL.dom (c : Cl κ H) : ∀ {n : Nat} {v : List V} {d : List D} {O S : List Addr}, RepL Γ κ H n v d O S → Dm κ H O S
  | _, _, _, _, _, .nil => .nil
  | _, _, _, _, _, .cons h r => (Rep.dom c h).app (RepL.dom c r)
end
/-! ### fewer levels -/
/-- O' of O are kept own, the others are shared now -/
structure Less (O S O' S' : List Addr) : Prop where
  sub : O'.Sublist O
  new : O.Nodup → ∀ a ∈ S', a ∈ S ∨ (a ∈ O ∧ a ∉ O')
theorem Less.refl {O S : List Addr} : Less O S O S := ⟨List.Sublist.refl _, fun _ _ h => .inl h⟩
theorem Less.app {O1 O2 S1 S2 O1' O2' S1' S2' : List Addr} (x : Less O1 S1 O1' S1') (y : Less O2 S2 O2' S2') : Less (O1 ++ O2) (S1 ++ S2) (O1' ++ O2') (S1' ++ S2') :=
  ⟨x.sub.append y.sub, fun nd a h => by
    obtain ⟨n1, n2, n3⟩ := List.nodup_append.mp nd
    rcases List.mem_append.mp h with h | h
    · rcases x.new n1 a h with q | ⟨q, q'⟩
      · exact .inl (List.mem_append_left _ q)
      · exact .inr ⟨List.mem_append_left _ q, fun z => (List.mem_append.mp z).elim q' fun z => n3 a q a (y.sub.subset z) rfl⟩
    · rcases y.new n2 a h with q | ⟨q, q'⟩
      · exact .inl (List.mem_append_right _ q)
      · exact .inr ⟨List.mem_append_right _ q, fun z => (List.mem_append.mp z).elim (fun z => n3 a (x.sub.subset z) a q rfl) q'⟩⟩
theorem Less.own {O S O' S' : List Addr} {a : Addr} (x : Less O S O' S') : Less (a :: O) S (a :: O') S' :=
  ⟨x.sub.cons_cons a, fun nd b h => by
    obtain ⟨n1, n2⟩ := List.nodup_cons.mp nd
    rcases x.new n2 b h with q | ⟨q, q'⟩
    · exact .inl q
    · exact .inr ⟨List.mem_cons_of_mem _ q, fun z => by rcases List.mem_cons.mp z with rfl | z; exact n1 q; exact q' z⟩⟩
theorem Less.drop {O S O' S' : List Addr} {a : Addr} (x : Less O S O' S') : Less (a :: O) S O' (a :: S') :=
  ⟨x.sub.cons a, fun nd b h => by
    obtain ⟨n1, n2⟩ := List.nodup_cons.mp nd
    rcases List.mem_cons.mp h with rfl | h
    · exact .inr ⟨List.mem_cons_self, fun z => n1 (x.sub.subset z)⟩
    · rcases x.new n2 b h with q | ⟨q, q'⟩
      · exact .inl q
      · exact .inr ⟨List.mem_cons_of_mem _ q, q'⟩⟩
theorem Less.sh {O S O' S' : List Addr} {a : Addr} (x : Less O S O' S') : Less O (a :: S) O' (a :: S') :=
  ⟨x.sub, fun nd b h => by
    rcases List.mem_cons.mp h with rfl | h
    · exact .inl List.mem_cons_self
    · exact (x.new nd b h).imp (List.mem_cons_of_mem _) id⟩
theorem rd_of {a : Addr} {o : HO} (h : H a = some o) : Rd H a o := .inl h
mutual
theorem Rep.less (m : Nat) : ∀ {n : Nat} {v : V} {d : D} {O S : List Addr}, Rep Γ κ H n v d O S → m ≤ n → ∃ O' S', Rep Γ κ H m v d O' S' ∧ Less O S O' S'
  | _, _, _, _, _, .non, _ => ⟨_, _, .non, .refl⟩
  | _, _, _, _, _, .bl, _ => ⟨_, _, .bl, .refl⟩
  | _, _, _, _, _, .int, _ => ⟨_, _, .int, .refl⟩
  | _, _, _, _, _, .str, _ => ⟨_, _, .str, .refl⟩
  | _, _, _, _, _, .typ, _ => ⟨_, _, .typ, .refl⟩
  | _, _, _, _, _, .cel h, _ => ⟨_, _, .cel h, .refl⟩
  | _, _, _, _, _, .glo h, _ => ⟨_, _, .glo h, .refl⟩
  | _, _, _, _, _, .tup h r, l => let ⟨_, _, r', x⟩ := RepL.less m r l; ⟨_, _, .tup h r', x⟩
  | _, _, _, _, _, .scr h, _ => ⟨_, _, .scr h, .refl⟩
  | _, _, _, _, _, .scr1 h n, _ => ⟨_, _, .scr1 h n, .refl⟩
  | _, _, _, _, _, .lst0 h n r, l => by obtain rfl : m = 0 := Nat.le_zero.mp l; exact ⟨_, _, .lst0 h n r, .refl⟩
  | _, _, _, _, _, .lst h n r, l => by
    cases m with
    | zero => obtain ⟨_, _, r', x⟩ := RepL.less 0 r (Nat.zero_le _); exact ⟨_, _, .lst0 h n r', x.drop⟩
    | succ m => obtain ⟨_, _, r', x⟩ := RepL.less m r (Nat.le_of_succ_le_succ l); exact ⟨_, _, .lst h n r', x.own⟩
  | _, _, _, _, _, .dic0 h q r, l => by obtain rfl : m = 0 := Nat.le_zero.mp l; exact ⟨_, _, .dic0 h q r, .refl⟩
  | _, _, _, _, _, .dic h q r, l => by
    cases m with
    | zero => obtain ⟨_, _, r', x⟩ := RepL.less 0 r (Nat.zero_le _); exact ⟨_, _, .dic0 h q r', x.drop⟩
    | succ m => obtain ⟨_, _, r', x⟩ := RepL.less m r (Nat.le_of_succ_le_succ l); exact ⟨_, _, .dic h q r', x.own⟩
  | _, _, _, _, _, .nic0 h q r, l => by obtain rfl : m = 0 := Nat.le_zero.mp l; exact ⟨_, _, .nic0 h q r, .refl⟩
  | _, _, _, _, _, .nic h q r, l => by
    cases m with
    | zero => obtain ⟨_, _, r', x⟩ := RepL.less 0 r (Nat.zero_le _); exact ⟨_, _, .nic0 (rd_of h) q r', x.drop⟩
    | succ m => obtain ⟨_, _, r', x⟩ := RepL.less m r (Nat.le_of_succ_le_succ l); exact ⟨_, _, .nic h q r', x.own⟩
  | _, _, _, _, _, .exn0 h g, _ => ⟨_, _, .exn0 h g, .refl⟩
  | _, _, _, _, _, .exn1 h h2 g r, _ => ⟨_, _, .exn1 h h2 g r, .refl⟩
  | _, _, _, _, _, .raw, _ => ⟨_, _, .raw, .refl⟩
  | _, _, _, _, _, .ins h g q r, _ => ⟨_, _, .ins h g q r, .refl⟩
theorem RepL.less (m : Nat) : ∀ {n : Nat} {v : List V} {d : List D} {O S : List Addr}, RepL Γ κ H n v d O S → m ≤ n → ∃ O' S', RepL Γ κ H m v d O' S' ∧ Less O S O' S'
  | _, _, _, _, _, .nil, _ => ⟨_, _, .nil, .refl⟩
  | _, _, _, _, _, .cons h r, l => let ⟨_, _, h', x⟩ := Rep.less m h l; let ⟨_, _, r', y⟩ := RepL.less m r l; ⟨_, _, .cons h' r', x.app y⟩
end
/-! ### all own -/
theorem mdepk_eq : ∀ kvs : List (NestedKey × D), D.mdepk kvs = D.mdeps (kvs.map (·.2))
  | [] => rfl
  | (k, d) :: r => by rw [D.mdepk, List.map_cons, D.mdeps, mdepk_eq r]
mutual
theorem Rep.more (m : Nat) : ∀ {n : Nat} {v : V} {d : D} {O S : List Addr}, Rep Γ κ H n v d O S → n < 100 → d.mdep ≤ n → S = [] ∧ (n ≤ m → Rep Γ κ H m v d O [])
  | _, _, _, _, _, .non, _, _ => ⟨rfl, fun _ => .non⟩
  | _, _, _, _, _, .bl, _, _ => ⟨rfl, fun _ => .bl⟩
  | _, _, _, _, _, .int, _, _ => ⟨rfl, fun _ => .int⟩
  | _, _, _, _, _, .str, _, _ => ⟨rfl, fun _ => .str⟩
  | _, _, _, _, _, .typ, _, _ => ⟨rfl, fun _ => .typ⟩
  | _, _, _, _, _, .cel h, _, _ => ⟨rfl, fun _ => .cel h⟩
  | _, _, _, _, _, .glo h, _, _ => ⟨rfl, fun _ => .glo h⟩
  | _, _, _, _, _, .tup h r, z100, l => by
    obtain ⟨e, q⟩ := RepL.more m r (by omega) (by rw [D.mdep] at l; exact l)
    subst e
    exact ⟨rfl, fun z => .tup h (q z)⟩
  | _, _, _, _, _, .scr h, _, _ => ⟨rfl, fun _ => .scr h⟩
  | _, _, _, _, _, .scr1 h n, z100, l => by rw [D.mdep] at l; omega
  | _, _, _, _, _, .lst0 h n r, z100, l => by rw [D.mdep] at l; omega
  | _, _, _, _, _, .lst h n r, z100, l => by
    rw [D.mdep] at l
    cases m with
    | zero => obtain ⟨e, q⟩ := RepL.more 0 r (by omega) (by omega); subst e; exact ⟨rfl, fun z => absurd z (by omega)⟩
    | succ m => obtain ⟨e, q⟩ := RepL.more m r (by omega) (by omega); subst e; exact ⟨rfl, fun z => .lst h n (q (by omega))⟩
  | _, _, _, _, _, .dic0 h q r, z100, l => by rw [D.mdep] at l; omega
  | _, _, _, _, _, .dic h q r, z100, l => by
    rw [D.mdep, mdepk_eq] at l
    cases m with
    | zero => obtain ⟨e, q⟩ := RepL.more 0 r (by omega) (by omega); subst e; exact ⟨rfl, fun z => absurd z (by omega)⟩
    | succ m => obtain ⟨e, q'⟩ := RepL.more m r (by omega) (by omega); subst e; exact ⟨rfl, fun z => .dic h q (q' (by omega))⟩
  | _, _, _, _, _, .nic0 h q r, z100, l => by rw [D.mdep] at l; omega
  | _, _, _, _, _, .nic h q r, z100, l => by
    rw [D.mdep, mdepk_eq] at l
    cases m with
    | zero => obtain ⟨e, q⟩ := RepL.more 0 r (by omega) (by omega); subst e; exact ⟨rfl, fun z => absurd z (by omega)⟩
    | succ m => obtain ⟨e, q'⟩ := RepL.more m r (by omega) (by omega); subst e; exact ⟨rfl, fun z => .nic h q (q' (by omega))⟩
  | n, _, _, _, _, .exn0 h g, z100, l => by rw [D.mdep] at l; omega
  | n, _, _, _, _, .exn1 h h2 g r, z100, l => by rw [D.mdep] at l; omega
  | n, _, _, _, _, .raw, z100, l => by rw [D.mdep] at l; omega
  | n, _, _, _, _, .ins h g q r, z100, l => by rw [D.mdep] at l; omega
theorem RepL.more (m : Nat) : ∀ {n : Nat} {v : List V} {d : List D} {O S : List Addr}, RepL Γ κ H n v d O S → n < 100 → D.mdeps d ≤ n → S = [] ∧ (n ≤ m → RepL Γ κ H m v d O [])
  | _, _, _, _, _, .nil, _, _ => ⟨rfl, fun _ => .nil⟩
  | _, _, _, _, _, .cons h r, z100, l => by
    rw [D.mdeps] at l
    obtain ⟨e1, q1⟩ := Rep.more m h (by omega) (by omega)
    obtain ⟨e2, q2⟩ := RepL.more m r (by omega) (by omega)
    subst e1; subst e2
    exact ⟨rfl, fun z => .cons (q1 z) (q2 z)⟩
end
mutual
theorem Rep.own0' : ∀ {n : Nat} {v : V} {d : D} {O S : List Addr}, Rep Γ κ H n v d O S → n = 0 → O = []
  | _, _, _, _, _, .non, _ => rfl
  | _, _, _, _, _, .bl, _ => rfl
  | _, _, _, _, _, .int, _ => rfl
  | _, _, _, _, _, .str, _ => rfl
  | _, _, _, _, _, .typ, _ => rfl
  | _, _, _, _, _, .cel h, _ => rfl
  | _, _, _, _, _, .glo h, _ => rfl
  | _, _, _, _, _, .tup h r, e => RepL.own0' r e
  | _, _, _, _, _, .scr h, _ => rfl
  | _, _, _, _, _, .scr1 h n, _ => rfl
  | _, _, _, _, _, .lst0 h n r, e => RepL.own0' r rfl
  | _, _, _, _, _, .lst h n r, e => nomatch e
  | _, _, _, _, _, .dic0 h q r, e => RepL.own0' r rfl
  | _, _, _, _, _, .dic h q r, e => nomatch e
  | _, _, _, _, _, .nic0 h q r, e => RepL.own0' r rfl
  | _, _, _, _, _, .nic h q r, e => nomatch e
  | _, _, _, _, _, .exn0 h g, _ => rfl
  | _, _, _, _, _, .exn1 h h2 g r, _ => Rep.own0' r rfl
  | _, _, _, _, _, .raw, _ => rfl
  | _, _, _, _, _, .ins h g q r, e => RepL.own0' r rfl
theorem RepL.own0' : ∀ {n : Nat} {v : List V} {d : List D} {O S : List Addr}, RepL Γ κ H n v d O S → n = 0 → O = []
  | _, _, _, _, _, .nil, _ => rfl
  | _, _, _, _, _, .cons h r, e => by rw [Rep.own0' h e, RepL.own0' r e]; rfl
end
theorem Rep.own0 {v : V} {d : D} {O S : List Addr} (r : Rep Γ κ H 0 v d O S) : O = [] := r.own0' rfl
theorem RepL.own0 {v : List V} {d : List D} {O S : List Addr} (r : RepL Γ κ H 0 v d O S) : O = [] := r.own0' rfl
end
end VL
/-! V3: what a step does to the heap; the readings. -/
namespace VL
open PySem L2 PyProof.Rows

structure CellR (Γ : Gam) (κ : List Addr) (H : Hp) (g : G) : Prop where
  len : κ.length = g.length
  nd : κ.Nodup
  at_ : ∀ (i : Nat) (a : Addr) (ds : List D), κ[i]? = some a → (g : List (List D))[i]? = some ds → ∃ vs, H a = some (.lst vs) ∧ RepL Γ κ H 0 vs ds [] []
/-- the slots hold the environment; SI: the shared nodes of each -/
structure EnvR (Γ : Gam) (κ : List Addr) (H : Hp) (σ : L2.St) (env : Env) (SI : Nat → List Addr) : Prop where
  len : σ.length = env.length
  at_ : ∀ (i : Nat) (d : D), env[i]? = some (some d) → ∃ v S, σ[i]? = some (some v) ∧ Rep Γ κ H 0 v d [] S ∧ ∀ a ∈ S, a ∈ SI i
  dom : ∀ i a, a ∈ SI i → ∃ o, H a = some o
structure Step (Γ : Gam) (κ : List Addr) (H : Hp) (SI : Nat → List Addr) (I : List Nat) (κ' : List Addr) (H' : Hp) (g' : G) (O S : List Addr) : Prop where
  ext : Ext κ H H'
  kx : KExt κ κ' H
  cr : CellR Γ κ' H' g'
  nd : O.Nodup
  fr : ∀ a ∈ O, H a = none
  al : ∀ a ∈ S, H a = none ∨ ∃ i ∈ I, a ∈ SI i
  ap : ∀ a ∈ S, a ∉ O
section
variable {Γ : Gam} {κ κ1 κ2 : List Addr} {H H1 H2 : Hp} {g g1 g2 : G} {SI : Nat → List Addr} {I J : List Nat} {O1 O2 S1 S2 O S : List Addr} {σ : L2.St} {env : Env} {n : Nat}
theorem CellR.cl (c : CellR Γ κ H g) : Cl κ H := fun a h => by
  obtain ⟨i, hi, e⟩ := List.mem_iff_getElem.mp h
  have hg : i < g.length := by have := c.len; omega
  obtain ⟨vs, e2, _⟩ := c.at_ i a g[i] (by rw [List.getElem?_eq_getElem hi, e]) (List.getElem?_eq_getElem hg)
  exact ⟨vs, e2⟩
theorem Step.cl (s : Step Γ κ H SI I κ1 H1 g1 O S) : Cl κ1 H1 := s.cr.cl
theorem Step.dom (s : Step Γ κ H SI I κ1 H1 g1 O S) {a : Addr} (h : H1 a = none) : H a = none := s.ext.dom s.cl s.kx.sub h
theorem Step.domS (s : Step Γ κ H SI I κ1 H1 g1 O S) (c : Cl κ H) {a : Addr} (h : ∃ o, H a = some o) : ∃ o, H1 a = some o := by
  cases e : H1 a with
  | some o => exact ⟨o, rfl⟩
  | none => obtain ⟨o, h⟩ := h; rw [s.dom e] at h; cases h
theorem EnvR.mono (e : EnvR Γ κ H σ env SI) (c : Cl κ H) (s : Step Γ κ H SI I κ1 H1 g1 O S) : EnvR Γ κ1 H1 σ env SI :=
  ⟨e.len, fun i d h => let ⟨v, S, a, b, q⟩ := e.at_ i d h; ⟨v, S, a, b.mono s.ext c s.kx, q⟩, fun i a h => s.domS c (e.dom i a h)⟩
theorem Ext.trans (x : Ext κ H H1) (k : KExt κ κ1 H) (y : Ext κ1 H1 H2) : Ext κ H H2 := fun a o h n => y a o (x a o h n) (k.notin h n)
theorem KExt.trans (x : KExt κ κ1 H) (y : KExt κ1 κ2 H1) (d : ∀ a, H1 a = none → H a = none) : KExt κ κ2 H := ⟨x.1.trans y.1, fun a h => by
  rcases y.2 a h with q | q
  · exact x.2 a q
  · exact .inr (d a q)⟩
theorem Step.trans (x : Step Γ κ H SI I κ1 H1 g1 O1 S1) (y : Step Γ κ1 H1 SI J κ2 H2 g2 O2 S2) (dm : Dm κ1 H1 O1 S1) (sd : ∀ i a, a ∈ SI i → ∃ o, H a = some o) :
    Step Γ κ H SI (I ++ J) κ2 H2 g2 (O1 ++ O2) (S1 ++ S2) where
  ext := x.ext.trans x.kx y.ext
  kx := x.kx.trans y.kx fun a h => x.dom h
  cr := y.cr
  nd := List.nodup_append.mpr ⟨x.nd, y.nd, fun a h b h' e => by
    subst e
    obtain ⟨⟨o, q⟩, _⟩ := dm.1 a h
    rw [y.fr a h'] at q; cases q⟩
  fr := fun a h => (List.mem_append.mp h).elim (x.fr a) fun h => x.dom (y.fr a h)
  al := fun a h => by
    rcases List.mem_append.mp h with h | h
    · rcases x.al a h with q | ⟨i, hi, q⟩
      · exact .inl q
      · exact .inr ⟨i, List.mem_append_left _ hi, q⟩
    · rcases y.al a h with q | ⟨i, hi, q⟩
      · exact .inl (x.dom q)
      · exact .inr ⟨i, List.mem_append_right _ hi, q⟩
  ap := fun a h z => by
    rcases List.mem_append.mp h with h | h <;> rcases List.mem_append.mp z with z | z
    · exact x.ap a h z
    · obtain ⟨⟨o, q⟩, _⟩ := dm.2 a h
      rw [y.fr a z] at q; cases q
    · rcases y.al a h with q | ⟨i, hi, q⟩
      · obtain ⟨⟨o, q'⟩, _⟩ := dm.1 a z
        rw [q] at q'; cases q'
      · obtain ⟨o, q'⟩ := sd i a q
        rw [x.fr a z] at q'; cases q'
    · exact y.ap a h z
/-- nothing happened -/
theorem Step.refl (c : CellR Γ κ H g) : Step Γ κ H SI I κ H g [] [] := ⟨.refl, .refl, c, List.nodup_nil, (fun _ h => by cases h), (fun _ h => by cases h), (fun _ h => by cases h)⟩
theorem Step.sub (x : Step Γ κ H SI I κ1 H1 g1 O S) {O' S' : List Addr} (l : Less O S O' S') : Step Γ κ H SI I κ1 H1 g1 O' S' :=
  ⟨x.ext, x.kx, x.cr, l.sub.nodup x.nd, fun a h => x.fr a (l.sub.subset h), fun a h => by
    rcases l.new x.nd a h with q | ⟨q, _⟩
    · exact x.al a q
    · exact .inl (x.fr a q), fun a h z => by
    rcases l.new x.nd a h with q | ⟨_, q⟩
    · exact x.ap a q (l.sub.subset z)
    · exact q z⟩
/-- fewer shared nodes -/
theorem Step.few (x : Step Γ κ H SI I κ1 H1 g1 O S) {S' : List Addr} (l : ∀ a ∈ S', a ∈ S) : Step Γ κ H SI I κ1 H1 g1 O S' :=
  ⟨x.ext, x.kx, x.cr, x.nd, x.fr, fun a h => x.al a (l a h), fun a h => x.ap a (l a h)⟩
theorem Step.names (x : Step Γ κ H SI I κ1 H1 g1 O S) (l : ∀ i ∈ I, i ∈ J) : Step Γ κ H SI J κ1 H1 g1 O S :=
  ⟨x.ext, x.kx, x.cr, x.nd, x.fr, fun a h => (x.al a h).imp id fun ⟨i, hi, q⟩ => ⟨i, l i hi, q⟩, x.ap⟩
/-- a new node on top of what was made: own -/
theorem ext_upd {a : Addr} {o : HO} (h : H a = none) : Ext κ H (upd H a o) := fun b u e _ => by rw [upd_ne (ne_of_none e h)]; exact e
theorem CellR.ext (c : CellR Γ κ H g) (x : Ext [] H H1) : CellR Γ κ H1 g := ⟨c.len, c.nd, fun i a ds h1 h2 => by
  obtain ⟨vs, e, r⟩ := c.at_ i a ds h1 h2
  exact ⟨vs, x a _ e (by simp), r.mono (fun b o e _ => x b o e (by simp)) c.cl .refl⟩⟩
theorem Step.new (x : Step Γ κ H SI I κ1 H1 g1 O S) {a : Addr} {o : HO} (h : H1 a = none) (dm : Dm κ1 H1 O S) : Step Γ κ H SI I κ1 (upd H1 a o) g1 (a :: O) S where
  ext := fun b u e n => by
    have q := x.ext b u e n
    rw [upd_ne (ne_of_none q h)]; exact q
  kx := x.kx
  cr := x.cr.ext (ext_upd h)
  nd := List.nodup_cons.mpr ⟨fun z => (by obtain ⟨⟨u, q⟩, _⟩ := dm.1 a z; rw [h] at q; cases q), x.nd⟩
  fr := fun b z => by
    rcases List.mem_cons.mp z with rfl | z
    · exact x.dom h
    · exact x.fr b z
  al := x.al
  ap := fun b z y => by
    rcases List.mem_cons.mp y with rfl | y
    · obtain ⟨⟨u, q⟩, _⟩ := dm.2 b z; rw [h] at q; cases q
    · exact x.ap b z y
/-- .. that is no node (a tuple) -/
theorem Step.put (x : Step Γ κ H SI I κ1 H1 g1 O S) {a : Addr} {o : HO} (h : H1 a = none) : Step Γ κ H SI I κ1 (upd H1 a o) g1 O S where
  ext := fun b u e n => by
    have q := x.ext b u e n
    rw [upd_ne (ne_of_none q h)]; exact q
  kx := x.kx
  cr := x.cr.ext (ext_upd h)
  nd := x.nd
  fr := x.fr
  al := x.al
  ap := x.ap
theorem Cl.notin {a : Addr} (c : Cl κ H) (h : H a = none) : a ∉ κ := fun z => by obtain ⟨vs, e⟩ := c a z; rw [h] at e; cases e
theorem Rep.upd {v : V} {d : D} {a : Addr} {o : HO} (r : Rep Γ κ H n v d O S) (c : Cl κ H) (h : H a = none) : Rep Γ κ (L2.upd H a o) n v d O S := r.mono (ext_upd h) c .refl
theorem RepL.upd {v : List V} {d : List D} {a : Addr} {o : HO} (r : RepL Γ κ H n v d O S) (c : Cl κ H) (h : H a = none) : RepL Γ κ (L2.upd H a o) n v d O S := r.mono (ext_upd h) c .refl
theorem RepL.len : ∀ {n : Nat} {v : List V} {d : List D} {O S : List Addr}, RepL Γ κ H n v d O S → v.length = d.length
  | _, _, _, _, _, .nil => rfl
  | _, _, _, _, _, .cons _ r => by simp [RepL.len r]
end

/-! ### the names in an expression, how far its value is its own -/
mutual
def nms : Ex → List Nat
  | .nev => [] | .orv _ es => nmss es
  | .non => [] | .bl _ => [] | .int _ => [] | .str _ => [] | .glo _ => [] | .con _ _ => []
  | .var i => [i]
  | .tup es => nmss es | .lst es => nmss es | .dic _ kvs => nmss kvs
  | .neg _ => [] | .bin _ a b => nms a ++ nms b | .cmp _ _ _ => [] | .cm2 _ _ _ _ _ => []
  | .bop _ _ => [] | .not _ => [] | .ite _ a b => nms a ++ nms b
  | .sub a b => nms a ++ nms b | .sli a _ _ => nms a | .rev a => nms a
  | .att _ a _ => nms a
  | .cal _ es => nmss es | .mak _ es => nmss es | .mth _ _ _ o es => nms o ++ nmss es
  | .bui _ es => nmss es | .bme _ o es => nms o ++ nmss es
  | .isi _ _ => [] | .isc _ _ => []
  | .lc _ _ ies _ elt => nmss ies ++ nms elt
  | .lc2 _ _ ies _ _ _ ies2 _ elt => nmss ies ++ nmss ies2 ++ nms elt
  | .dc _ _ _ ies _ key val => nmss ies ++ nms key ++ nms val
  | .upd _ a kvs => nms a ++ nmss kvs
  | .err _ es => nmss es | .exb _ => [] | .isx _ _ _ => [] | .atv _ a => nms a
def nmss : List Ex → List Nat
  | [] => []
  | e :: es => nms e ++ nmss es
end
mutual
def own (rl : Str → Nat) : Ex → Nat
  | .nev => 90 | .orv _ es => owns rl es
  | .non => 90 | .bl _ => 90 | .int _ => 90 | .str _ => 90 | .glo _ => 90 | .con _ _ => 0
  | .var _ => 0
  | .tup es => owns rl es | .lst es => 1 + owns rl es | .dic _ kvs => 1 + owns rl kvs
  | .neg _ => 90 | .bin _ _ _ => 1 | .cmp _ _ _ => 90 | .cm2 _ _ _ _ _ => 90
  | .bop _ _ => 90 | .not _ => 90 | .ite _ a b => min (own rl a) (own rl b)
  | .sub _ _ => 0 | .sli _ _ _ => 1 | .rev _ => 1
  | .att _ _ _ => 0
  | .cal f _ => rl f | .mak _ _ => 0 | .mth _ _ key _ _ => rl key
  | .bui b _ => (match b with | .list => 1 | .sorted => 1 | .dict => 1 | _ => 0) | .bme b _ _ => (match b with | .split => 1 | _ => 0)
  | .isi _ _ => 90 | .isc _ _ => 90
  | .lc _ _ _ _ elt => 1 + own rl elt
  | .lc2 _ _ _ _ _ _ _ _ elt => 1 + own rl elt
  | .dc _ _ _ _ _ _ val => 1 + own rl val
  | .upd _ _ _ => 1
  | .err _ _ => 0 | .exb _ => 0 | .isx _ _ _ => 90 | .atv _ _ => 0
def owns (rl : Str → Nat) : List Ex → Nat
  | [] => 90
  | e :: es => min (own rl e) (owns rl es)
end

/-! ### readings -/
structure Tab where
  Φ : Phi
  rl : Str → Nat
def tX (Γ : Gam) (T : Tab) (m : Ex) : TE := fun σ H Q => ∃ κ g env SI, CellR Γ κ H g ∧ EnvR Γ κ H σ env SI ∧ ∃ d g', ev T.Φ m env g = some (d, g') ∧
  ∀ v H' κ' O S, Step Γ κ H SI (nms m) κ' H' g' O S → Rep Γ κ' H' (own T.rl m) v d O S → Q v H'
def tXs (Γ : Gam) (T : Tab) (ms : List Ex) : TA := fun σ H Q => ∃ κ g env SI, CellR Γ κ H g ∧ EnvR Γ κ H σ env SI ∧ ∃ ds g', evs T.Φ ms env g = some (ds, g') ∧
  ∀ vs H' κ' O S, Step Γ κ H SI (nmss ms) κ' H' g' O S → RepL Γ κ' H' (owns T.rl ms) vs ds O S → Q vs H'
def tT (Γ : Gam) (T : Tab) (m : Ex) : TT := fun σ H Q => ∃ κ g env SI, CellR Γ κ H g ∧ EnvR Γ κ H σ env SI ∧ ∃ d g' b, ev T.Φ m env g = some (d, g') ∧ truth d = some b ∧
  ∀ H' κ', Step Γ κ H SI [] κ' H' g' [] [] → Q b H'
section
variable {Γ : Gam} {T : Tab} {κ κ1 κ2 : List Addr} {H H1 H2 : Hp} {g g1 g2 : G} {SI : Nat → List Addr} {I J : List Nat} {O1 O2 S1 S2 O S : List Addr} {σ : L2.St} {env : Env} {n : Nat} {X : Cx} {e : Expr} {m m' : Ex}
theorem PE.imp {t t' : TE} (h : PE X e t) (i : ∀ σ H Q, t' σ H Q → t σ H Q) : PE X e t' := ⟨fun pins s σ H Q I q => h.run pins s σ H Q I (i σ H Q q)⟩
theorem PT.imp {t t' : TT} (h : PT X e t) (i : ∀ σ H Q, t' σ H Q → t σ H Q) : PT X e t' := ⟨fun pins s σ H Q I q => h.run pins s σ H Q I (i σ H Q q)⟩
theorem PA.imp {es : List Expr} {t t' : TA} (h : PA X es t) (i : ∀ σ H Q, t' σ H Q → t σ H Q) : PA X es t' := ⟨fun pos pins s σ H Q I q => h.run pos pins s σ H Q I (i σ H Q q)⟩
theorem PS.imp {st : Stmt} {t t' : TS} (h : PS X st t) (i : ∀ D σ H, t' D σ H → t D σ H) : PS X st t' := ⟨fun pins s σ H D I q => h.run pins s σ H D I (i D σ H q)⟩
/-- one operand, its shared view -/
theorem run1 {P : V → Hp → Prop} (c : CellR Γ κ H g) (r : EnvR Γ κ H σ env SI) {d : D} (e1 : ev T.Φ m env g = some (d, g1))
    (k : ∀ v H1 κ1 S, Step Γ κ H SI (nms m) κ1 H1 g1 [] S → Rep Γ κ1 H1 0 v d [] S → P v H1) : tX Γ T m σ H P :=
  ⟨κ, g, env, SI, c, r, d, g1, e1, fun v H' κ' O S s q => by
    obtain ⟨O', S', q', l⟩ := Rep.less 0 q (Nat.zero_le _)
    have e0 : O' = [] := Rep.own0 q'
    subst e0
    exact k v H' κ' S' (s.sub l) q'⟩
end
end VL
/-! V4: operators over value trees. -/
namespace VL
open PySem L2 PyProof.Rows

def gam (X : Cx) : Gam := ⟨X.prog, X.w, X.K, X.mg⟩
/-- what an operation of a built-in makes -/
structure Made (Γ : Gam) (κ : List Addr) (H : Hp) (Sin : List Addr) (H' : Hp) (n : Nat) (v : V) (d : D) (O S : List Addr) : Prop where
  ext : Ext [] H H'
  rep : Rep Γ κ H' n v d O S
  nd : O.Nodup
  fr : ∀ a ∈ O, H a = none
  sh : ∀ a ∈ S, a ∈ Sin
section
variable {Γ : Gam} {κ κ1 κ2 : List Addr} {H H1 H2 : Hp} {g g1 g2 : G} {SI : Nat → List Addr} {I J : List Nat} {O1 O2 S1 S2 O S Sin : List Addr} {σ : L2.St} {env : Env} {n : Nat} {v : V} {d : D} {vs : List V} {ds : List D} {X : Cx}
theorem Made.same (r : Rep Γ κ H n v d [] S) (h : ∀ a ∈ S, a ∈ Sin) : Made Γ κ H Sin H n v d [] S :=
  ⟨.refl, r, List.nodup_nil, (fun _ z => by cases z), h⟩
theorem Made.lst (c : Cl κ H) (r : RepL Γ κ H 0 vs ds [] S) {p : Addr} (hp : H p = none) (h : ∀ a ∈ S, a ∈ Sin) : Made Γ κ H Sin (L2.upd H p (.lst vs)) 1 (.ref p) (.lst ds) [p] S :=
  ⟨ext_upd hp, .lst upd_same (c.notin hp) (r.upd c hp), by simp, (fun a z => by
    rcases List.mem_singleton.mp z with rfl
    exact hp), h⟩
theorem Made.tup (c : Cl κ H) (r : RepL Γ κ H n vs ds [] S) {p : Addr} (hp : H p = none) (h : ∀ a ∈ S, a ∈ Sin) : Made Γ κ H Sin (L2.upd H p (.tup vs)) n (.ref p) (.tup ds) [] S :=
  ⟨ext_upd hp, .tup (.inl (.inl upd_same)) (r.upd c hp), List.nodup_nil, (fun a z => by cases z), h⟩
theorem Step.made (x : Step Γ κ H SI I κ1 H1 g1 [] S1) (y : Made Γ κ1 H1 S1 H2 n v d O S) (dm : ∀ a ∈ S1, ∃ o, H1 a = some o) : Step Γ κ H SI I κ1 H2 g1 O S where
  ext := fun a o h n => y.ext a o (x.ext a o h n) (by simp)
  kx := x.kx
  cr := x.cr.ext y.ext
  nd := y.nd
  fr := fun a z => x.dom (y.fr a z)
  al := fun a z => x.al a (y.sh a z)
  ap := fun a z q => by obtain ⟨o, e⟩ := dm a (y.sh a z); rw [y.fr a q] at e; cases e
theorem RepL.append : ∀ {vs vs' : List V} {ds ds' : List D} {O1 O2 S1 S2 : List Addr}, RepL Γ κ H n vs ds O1 S1 → RepL Γ κ H n vs' ds' O2 S2 → RepL Γ κ H n (vs ++ vs') (ds ++ ds') (O1 ++ O2) (S1 ++ S2)
  | _, _, _, _, _, _, _, _, .nil, r => r
  | _, _, _, _, _, _, _, _, .cons h t, r => by
    have q := RepL.cons h (RepL.append t r)
    rw [← List.append_assoc, ← List.append_assoc] at q; exact q
/-- some of the items, shared view -/
theorem RepL.pick : ∀ {vs : List V} {ds : List D} {O S : List Addr}, RepL Γ κ H 0 vs ds O S → ∀ (i : Nat) (d : D), ds[i]? = some d → ∃ v S', vs[i]? = some v ∧ Rep Γ κ H 0 v d [] S' ∧ ∀ a ∈ S', a ∈ S
  | _, _, _, _, .nil, i, d, h => by simp at h
  | _, _, _, _, .cons (S1 := S1) (S2 := S2) h t, 0, d, e => by
    simp at e; subst e
    have := h.own0; subst this
    exact ⟨_, _, rfl, h, fun a z => List.mem_append_left _ z⟩
  | _, _, _, _, .cons (S1 := S1) (S2 := S2) h t, i + 1, d, e => by
    obtain ⟨v, S', a, b, c⟩ := RepL.pick t i d (by simpa using e)
    exact ⟨v, S', by simpa using a, b, fun a z => List.mem_append_right _ (c a z)⟩
theorem RepL.pickV {vs : List V} {ds : List D} {O S : List Addr} (r : RepL Γ κ H 0 vs ds O S) (i : Nat) (v : V) (h : vs[i]? = some v) : ∃ d S', ds[i]? = some d ∧ Rep Γ κ H 0 v d [] S' ∧ ∀ a ∈ S', a ∈ S := by
  have hi := (List.getElem?_eq_some_iff.mp h).1
  have hl := r.len
  obtain ⟨v', S', a, b, c⟩ := r.pick i _ (List.getElem?_eq_getElem (by omega))
  rw [h] at a; cases a
  exact ⟨_, S', List.getElem?_eq_getElem (by omega), b, c⟩
theorem RepL.subl : ∀ {vs : List V} {ds : List D} {O S : List Addr}, RepL Γ κ H 0 vs ds O S → ∀ k, (∃ S', RepL Γ κ H 0 (vs.drop k) (ds.drop k) [] S' ∧ ∀ a ∈ S', a ∈ S) ∧ (∃ S', RepL Γ κ H 0 (vs.take k) (ds.take k) [] S' ∧ ∀ a ∈ S', a ∈ S)
  | _, _, _, _, .nil, k => by
    rw [List.drop_nil, List.take_nil, List.drop_nil, List.take_nil]
    exact ⟨⟨[], .nil, by simp⟩, ⟨[], .nil, by simp⟩⟩
  | _, _, _, _, .cons h t, 0 => by
    have e1 := h.own0; have e2 := t.own0; subst e1; subst e2
    exact ⟨⟨_, .cons h t, fun a z => z⟩, ⟨[], .nil, by simp⟩⟩
  | _, _, _, _, .cons h t, k + 1 => by
    obtain ⟨⟨Sa, a1, a2⟩, ⟨Sb, b1, b2⟩⟩ := RepL.subl t k
    have e1 := h.own0; subst e1
    exact ⟨⟨Sa, by simpa using a1, fun a z => List.mem_append_right _ (a2 a z)⟩, ⟨_, by simpa using RepL.cons h b1, fun a z => (List.mem_append.mp z).elim (List.mem_append_left _) fun q => List.mem_append_right _ (b2 a q)⟩⟩
theorem RepL.rev : ∀ {vs : List V} {ds : List D} {O S : List Addr}, RepL Γ κ H 0 vs ds O S → ∃ S', RepL Γ κ H 0 vs.reverse ds.reverse [] S' ∧ ∀ a ∈ S', a ∈ S
  | _, _, _, _, .nil => ⟨[], .nil, by simp⟩
  | _, _, _, _, .cons h t => by
    obtain ⟨S', a, b⟩ := RepL.rev t
    have e1 := h.own0; subst e1
    rw [List.reverse_cons, List.reverse_cons]
    exact ⟨_, a.append (.cons h .nil), fun x z => (List.mem_append.mp z).elim (fun q => List.mem_append_right _ (b x q)) fun q => List.mem_append_left _ (by simpa using q)⟩
theorem RepL.rep {vs : List V} {ds : List D} {O S : List Addr} (r : RepL Γ κ H 0 vs ds O S) : ∀ k, ∃ S', RepL Γ κ H 0 (List.replicate k vs).flatten (List.replicate k ds).flatten [] S' ∧ ∀ a ∈ S', a ∈ S
  | 0 => ⟨[], .nil, by simp⟩
  | k + 1 => by
    obtain ⟨S', a, b⟩ := RepL.rep r k
    have e := r.own0; subst e
    rw [List.replicate_succ, List.replicate_succ, List.flatten_cons, List.flatten_cons]
    exact ⟨_, r.append a, fun x z => (List.mem_append.mp z).elim id (b x)⟩
theorem RepL.cut {vs : List V} {ds : List D} {O S : List Addr} (r : RepL Γ κ H 0 vs ds O S) (lo hi : Option Int) : ∃ S', RepL Γ κ H 0 (cutV vs lo hi) (VL.cut ds lo hi) [] S' ∧ ∀ a ∈ S', a ∈ S := by
  obtain ⟨S1, a1, b1⟩ := (r.subl (HT.sIx ds.length 0 lo)).1
  obtain ⟨S2, a2, b2⟩ := (a1.subl (HT.sIx ds.length ds.length hi - HT.sIx ds.length 0 lo)).2
  unfold cutV VL.cut
  rw [r.len]
  exact ⟨S2, a2, fun a z => b1 a (b2 a z)⟩
theorem RepL.ints : ∀ is : List Int, RepL Γ κ H n (is.map V.int) (is.map D.int) [] []
  | [] => .nil
  | i :: r => .cons (O1 := []) (S1 := []) .int (RepL.ints r)
theorem RepL.strs : ∀ is : List Str, RepL Γ κ H n (is.map V.str) (is.map D.str) [] []
  | [] => .nil
  | i :: r => .cons (O1 := []) (S1 := []) .str (RepL.strs r)
/-! ### data -/
mutual
theorem Rep.dp : ∀ {n : Nat} {v : V} {d : D} {O S : List Addr}, Rep Γ κ H n v d O S → ∀ p, d.data = some p → Dp Γ.K H v p
  | _, _, _, _, _, .non, p, h => by cases h; exact .non
  | _, _, _, _, _, .bl, p, h => by cases h; exact .bl _
  | _, _, _, _, _, .int, p, h => by cases h; exact .int _
  | _, _, _, _, _, .str, p, h => by cases h; exact .str _
  | _, _, _, _, _, .typ, p, h => by cases h
  | _, _, _, _, _, .cel _, p, h => by cases h
  | _, _, _, _, _, .glo _, p, h => by cases h
  | _, _, _, _, _, .scr _, p, h => by cases h
  | _, _, _, _, _, .scr1 _ _, p, h => by cases h
  | _, _, _, _, _, .tup a r, p, h => by
    rw [D.data] at h
    obtain ⟨ps, e, rfl⟩ := Option.map_eq_some_iff.mp h
    exact .tup a (RepL.dp r ps e)
  | _, _, _, _, _, .lst0 a n r, p, h => by
    rw [D.data] at h
    obtain ⟨ps, e, rfl⟩ := Option.map_eq_some_iff.mp h
    exact .lst (.of a) (RepL.dp r ps e)
  | _, _, _, _, _, .lst a n r, p, h => by
    rw [D.data] at h
    obtain ⟨ps, e, rfl⟩ := Option.map_eq_some_iff.mp h
    exact .lst (.of a) (RepL.dp r ps e)
  | _, _, _, _, _, .dic0 _ _ _, p, h => by cases h
  | _, _, _, _, _, .dic _ _ _, p, h => by cases h
  | _, _, _, _, _, .nic0 _ _ _, p, h => by cases h
  | _, _, _, _, _, .nic _ _ _, p, h => by cases h
  | _, _, _, _, _, .exn0 _ _, p, h => by cases h
  | _, _, _, _, _, .exn1 _ _ _ _, p, h => by cases h
  | _, _, _, _, _, .raw, p, h => by cases h
  | _, _, _, _, _, .ins _ _ _ _, p, h => by cases h
theorem RepL.dp : ∀ {n : Nat} {v : List V} {d : List D} {O S : List Addr}, RepL Γ κ H n v d O S → ∀ p, D.datas d = some p → DpAll Γ.K H v p
  | _, _, _, _, _, .nil, p, h => by cases h; exact .nil
  | _, _, _, _, _, .cons a r, p, h => by
    rw [D.datas] at h
    obtain ⟨q, e1, h⟩ := Option.bind_eq_some_iff.mp h
    obtain ⟨qs, e2, rfl⟩ := Option.map_eq_some_iff.mp h
    exact .cons (Rep.dp a q e1) (RepL.dp r qs e2)
end
/-! ### keys -/
mutual
theorem Rep.keyR : ∀ {n : Nat} {v : V} {d : D} {O S : List Addr}, Rep Γ κ H n v d O S → ∀ k, d.key = some k → KeyR Γ.K H k v
  | _, _, _, _, _, .non, p, h => by cases h
  | _, _, _, _, _, .bl, p, h => by cases h
  | _, _, _, _, _, .int, p, h => by cases h; exact .num _
  | _, _, _, _, _, .str, p, h => by cases h; exact .text _
  | _, _, _, _, _, .typ, p, h => by cases h
  | _, _, _, _, _, .cel _, p, h => by cases h
  | _, _, _, _, _, .glo _, p, h => by cases h
  | _, _, _, _, _, .scr _, p, h => by cases h
  | _, _, _, _, _, .scr1 _ _, p, h => by cases h
  | _, _, _, _, _, .tup a r, p, h => by
    rw [D.key] at h
    obtain ⟨ps, e, rfl⟩ := Option.map_eq_some_iff.mp h
    exact .tup a (RepL.keyR r ps e)
  | _, _, _, _, _, .lst0 a n r, p, h => by cases h
  | _, _, _, _, _, .lst a n r, p, h => by cases h
  | _, _, _, _, _, .dic0 _ _ _, p, h => by cases h
  | _, _, _, _, _, .dic _ _ _, p, h => by cases h
  | _, _, _, _, _, .nic0 _ _ _, p, h => by cases h
  | _, _, _, _, _, .nic _ _ _, p, h => by cases h
  | _, _, _, _, _, .exn0 _ _, p, h => by cases h
  | _, _, _, _, _, .exn1 _ _ _ _, p, h => by cases h
  | _, _, _, _, _, .raw, p, h => by cases h
  | _, _, _, _, _, .ins _ _ _ _, p, h => by cases h
theorem RepL.keyR : ∀ {n : Nat} {v : List V} {d : List D} {O S : List Addr}, RepL Γ κ H n v d O S → ∀ p, D.keys d = some p → KeysR Γ.K H p v
  | _, _, _, _, _, .nil, p, h => by cases h; exact .nil
  | _, _, _, _, _, .cons a r, p, h => by
    rw [D.keys] at h
    obtain ⟨q, e1, h⟩ := Option.bind_eq_some_iff.mp h
    obtain ⟨qs, e2, rfl⟩ := Option.map_eq_some_iff.mp h
    exact .cons (Rep.keyR a q e1) (RepL.keyR r qs e2)
end
mutual
theorem KeyR.rep : ∀ {k : NestedKey} {v : V}, KeyR Γ.K H k v → Rep Γ κ H n v (ofKey k) [] []
  | _, _, .none => by rw [ofKey]; exact .non
  | _, _, .num i => by rw [ofKey]; exact .int
  | _, _, .text x => by rw [ofKey]; exact .str
  | _, _, .tup a r => by rw [ofKey]; exact .tup a (KeysR.rep r)
theorem KeysR.rep : ∀ {k : List NestedKey} {v : List V}, KeysR Γ.K H k v → RepL Γ κ H n v (ofKeys k) [] []
  | _, _, .nil => by rw [ofKeys]; exact .nil
  | _, _, .cons a r => by rw [ofKeys]; exact .cons (O1 := []) (S1 := []) (KeyR.rep a) (KeysR.rep r)
end
end
section
variable {X : Cx} {pins : List (Addr × Obj)} {σ : L2.St} {H : Hp} {s : Shared}
mutual
theorem KeyR.is (I : Inv X pins σ H s) : ∀ {k : NestedKey} {v : V} {u : Value}, KeyR X.K H k v → RelV v u → NestedIs s.heap k u
  | _, _, _, .none, r => by cases r; exact .none
  | _, _, _, .num i, r => by obtain ⟨t, rfl⟩ := r; exact .int _ _
  | _, _, _, .text x, r => by obtain ⟨t, rfl⟩ := r; exact .text _ _
  | _, _, _, .tup h q, r => by
    cases r
    obtain ⟨its, rv, ⟨o, e1, e2, m, e3⟩, _⟩ := I.tuple h
    exact .tup e1 e2 e3 (by simpa using KeysR.is I q rv)
theorem KeysR.is (I : Inv X pins σ H s) : ∀ {k : List NestedKey} {v : List V} {u : List Value}, KeysR X.K H k v → Vals v u → NestedAll s.heap k u
  | _, _, _, .nil, r => by cases r; exact .nil
  | _, _, _, .cons h q, r => by
    cases r with
    | cons r1 r2 => exact .cons (KeyR.is I h r1) (KeysR.is I q r2)
end
theorem nn_is {kvs : List (NestedKey × Addr × V)} {xs : List (NestedKey × Addr × Value)} (I : Inv X pins σ H s) (pr : Paired (fun p q => p.1 = q.1 ∧ p.2.1 = q.2.1 ∧ RelV p.2.2 q.2.2) kvs xs) :
    ∀ {ds : List (NestedKey × D)}, NE X.K H kvs ds → ∀ x ∈ xs, (nestedKind X.prog X.w).is s.heap x.1 x.2.1 := by
  induction pr with
  | nil => intro ds nn x hx; cases hx
  | cons r t ih =>
    intro ds nn
    cases nn with
    | cons p q =>
      intro x hx
      rcases List.mem_cons.mp hx with rfl | hx
      · obtain ⟨p1, p2, p3⟩ := p
        obtain ⟨r1, r2, r3⟩ := r
        have hdp := (Bool.and_eq_true_iff.mp (show (tupKey _ && decide (NestedKey.depth _ ≤ 8)) = true from p2)).2
        rw [← r1, ← r2, p1]
        exact ⟨KeyR.is I p3 rfl, of_decide_eq_true hdp⟩
      · exact ih q x hx
/-- the dict with tuple keys at a -/
theorem dn_rd {a : Addr} {kvs : List (NestedKey × Addr × V)} {ds : List (NestedKey × D)} (I : Inv X pins σ H s) (h : Rd H a (dN X.prog X.w a kvs)) (nn : NE X.K H kvs ds) :
    kvs.length ≤ sizeLine ∧ (a == sysModules) = false ∧ ∃ xs : List (NestedKey × Addr × Value), Paired (fun p q => p.1 = q.1 ∧ p.2.1 = q.2.1 ∧ RelV p.2.2 q.2.2) kvs xs ∧ s.heap.DictOfH (nestedKind X.prog X.w) a xs := by
  obtain ⟨⟨z, hd, xs, pr, nd, o, es, ep, e1, e2, e3, e4⟩, _⟩ := h.ok I.hok
  exact ⟨z, hd, xs, pr, o, es, ep, e1, e2, e3, e4, nn_is I pr nn, nd⟩
end
end VL
/-! V5: operators. -/
namespace VL
open PySem L2 PyProof.Rows

def rD2 (Γ : Gam) (n : Nat) (f : D → D → Option D) : R2 := fun x y H Q => ∃ κ da db d Sa Sb, Cl κ H ∧ Rep Γ κ H 0 x da [] Sa ∧ Rep Γ κ H 0 y db [] Sb ∧ f da db = some d ∧
  ∀ v H' O S, Made Γ κ H (Sa ++ Sb) H' n v d O S → Q v H'
def opB : BO → Operator
  | .add => .Add | .sub => .Sub | .mul => .Mult | .fdiv => .FloorDiv | .mod => .Mod | .pow => .Pow
def opC : CO → CmpOp
  | .eq => .Eq | .ne => .NotEq | .lt => .Lt | .le => .LtE | .gt => .Gt | .ge => .GtE | .isin => .In | .notin => .NotIn | .is => .Is | .isnot => .IsNot
theorem sz_line {n : Nat} (h : sz n = true) : n ≤ sizeLine := by
  have : n ≤ 1000000 := of_decide_eq_true h
  rw [sizeLine_eq]; omega
section
variable {X : Cx}
theorem OpR.imp {f : Value → Value → Sem Value} {r r' : R2} (h : OpR X f r) (i : ∀ x y H Q, r' x y H Q → r x y H Q) : OpR X f r' :=
  fun pins s σ H x y v u Q I rx ry q => h pins s σ H x y v u Q I rx ry (i x y H Q q)
theorem powR : OpR X (binaryOp .Pow) (rI (fun i j => 0 ≤ j ∧ (Builtin.Int.intBits i : Int) * j ≤ 2 ^ 27) fun i j => .int (i ^ j.toNat)) := opI fun _ _ _ _ _ _ _ hc q => pow_int hc.1 hc.2 q
theorem catL : OpR X (binaryOp .Add) rCat := op_cat
theorem op_bin (o : BO) : OpR X (binaryOp (opB o)) (rD2 (gam X) 1 (binop o)) := by
  intro pins s σ H x y v u Q I rx ry ⟨κ, da, db, d, Sa, Sb, cl, ra, rb, e, k⟩
  have ki : ∀ i : Int, Rep (gam X) κ H 1 (.int i) (.int i) [] [] := fun i => .int
  unfold binop at e
  split at e
  · cases e; cases ra; cases rb
    exact op_add pins s σ H _ _ v u Q I rx ry ⟨_, _, rfl, rfl, k _ _ _ _ (.same .int (by simp))⟩
  · split at e
    · next h =>
      cases e; cases ra; cases rb
      exact op_add_str pins s σ H _ _ v u Q I rx ry ⟨_, _, rfl, rfl, sz_line h, k _ _ _ _ (.same .str (by simp))⟩
    · cases e
  · split at e
    · next h =>
      cases e
      cases ra with
      | lst0 ha na qa =>
        cases rb with
        | lst0 hb nb qb =>
          refine op_cat pins s σ H _ _ v u Q I rx ry ⟨_, _, _, _, rfl, rfl, ha, hb, by rw [qa.len, qb.len]; exact sz_line h, fun p hp => k _ _ _ _ (.lst cl (qa.append qb) hp fun a z => ?_)⟩
          rcases List.mem_append.mp z with z | z
          · exact List.mem_append_left _ (List.mem_cons_of_mem _ z)
          · exact List.mem_append_right _ (List.mem_cons_of_mem _ z)
    · cases e
  · split at e
    · next h =>
      cases e
      cases ra with
      | tup ha qa =>
        cases rb with
        | tup hb qb =>
          obtain ⟨h0, h1⟩ := Bool.and_eq_true_iff.mp h
          obtain ⟨h1, h2⟩ := Bool.and_eq_true_iff.mp h1
          obtain ⟨e1, m1⟩ := qa.more 1 (by decide) (Nat.le_of_eq (by simpa using h1))
          obtain ⟨e2, m2⟩ := qb.more 1 (by decide) (Nat.le_of_eq (by simpa using h2))
          subst e1; subst e2
          refine op_catA pins s σ H _ _ v u Q I rx ry ⟨_, _, _, _, rfl, rfl, ha, hb, by rw [qa.len, qb.len]; exact sz_line h0, fun z => ?_, fun z1 z2 => ?_, fun z1 z2 p hp => ?_⟩
          · subst z
            cases qa
            exact k _ _ _ _ (.same (.tup hb (m2 (by decide))) (by simp))
          · subst z2
            cases qb
            exact k _ _ _ _ (.same (.tup ha (by rw [List.append_nil]; exact m1 (by decide))) (by simp))
          · exact k _ _ _ _ (.tup cl ((m1 (by decide)).append (m2 (by decide))) hp (by simp))
    · cases e
  · cases e; cases ra; cases rb
    exact op_sub pins s σ H _ _ v u Q I rx ry ⟨_, _, rfl, rfl, k _ _ _ _ (.same .int (by simp))⟩
  · split at e
    · next h =>
      cases e; cases ra; cases rb
      exact op_mul pins s σ H _ _ v u Q I rx ry ⟨_, _, rfl, rfl, by
        rcases Bool.or_eq_true_iff.mp h with h | h
        · exact .inl (of_decide_eq_true h)
        · exact .inr (of_decide_eq_true h), k _ _ _ _ (.same .int (by simp))⟩
    · cases e
  · split at e
    · next h =>
      cases e
      obtain ⟨h1, h3⟩ := Bool.and_eq_true_iff.mp h
      obtain ⟨h1, h2⟩ := Bool.and_eq_true_iff.mp h1
      have h1 := of_decide_eq_true h1
      have h2 := of_decide_eq_true h2
      cases rb
      cases ra with
      | lst0 ha na qa =>
        obtain ⟨S', q, l⟩ := qa.rep _
        exact op_rep pins s σ H _ _ v u Q I rx ry ⟨_, _, _, rfl, rfl, ha, by omega, h2, by rw [qa.len]; exact sz_line h3, fun p hp => k _ _ _ _ (.lst cl q hp fun a z => List.mem_append_left _ (List.mem_cons_of_mem _ (l a z)))⟩
    · cases e
  · split at e
    · next h =>
      cases e; cases ra; cases rb
      obtain ⟨h1, h2⟩ := Bool.and_eq_true_iff.mp h
      exact op_fdiv pins s σ H _ _ v u Q I rx ry ⟨_, _, rfl, rfl, ⟨of_decide_eq_true h1, of_decide_eq_true h2⟩, k _ _ _ _ (.same .int (by simp))⟩
    · cases e
  · split at e
    · next h =>
      cases e; cases ra; cases rb
      exact op_mod pins s σ H _ _ v u Q I rx ry ⟨_, _, rfl, rfl, of_decide_eq_true h, k _ _ _ _ (.same .int (by simp))⟩
    · cases e
  · split at e
    · next h =>
      cases e; cases ra; cases rb
      obtain ⟨h1, h2⟩ := Bool.and_eq_true_iff.mp h
      exact powR pins s σ H _ _ v u Q I rx ry ⟨_, _, rfl, rfl, ⟨of_decide_eq_true h1, of_decide_eq_true h2⟩, k _ _ _ _ (.same .int (by simp))⟩
    · cases e
  · cases e

/-! ### comparisons -/
def rC2 (Γ : Gam) (f : D → D → Option Bool) : R2 := fun x y H Q => ∃ κ g da db b Sa Sb, CellR Γ κ H g ∧ Rep Γ κ H 0 x da [] Sa ∧ Rep Γ κ H 0 y db [] Sb ∧ f da db = some b ∧ Q (.bl b) H
theorem ltR (hu : X.A.units + 66 < cLine) : OpR X (compareOp .Lt) (rC2 (gam X) ltD) := by
  intro pins s σ H x y v u Q I rx ry ⟨κ, g, da, db, b, Sa, Sb, c, ra, rb, e, q⟩
  unfold ltD at e
  obtain ⟨p, e1, e⟩ := Option.bind_eq_some_iff.mp e
  obtain ⟨r, e2, e⟩ := Option.bind_eq_some_iff.mp e
  split at e
  · next h =>
    obtain ⟨h1, h3⟩ := Bool.and_eq_true_iff.mp h
    obtain ⟨h1, h2⟩ := Bool.and_eq_true_iff.mp h1
    have h2 := of_decide_eq_true h2
    cases e
    obtain ⟨as, r1⟩ := Dp.reads I p x v (ra.dp p e1) rx
    obtain ⟨bs, r2⟩ := Dp.reads I r y u (rb.dp r e2) ry
    have hm : min p.depth r.depth ≤ p.depth := Nat.min_le_left _ _
    exact PySem.W.lt_data r1 r2 h1 (by rintro rfl; cases h3) (by omega) ⟨.bl _, H, I, rfl, q⟩
  · cases e
theorem gtR (hu : X.A.units + 66 < cLine) : OpR X (compareOp .Gt) (rC2 (gam X) fun a b => ltD b a) := by
  intro pins s σ H x y v u Q I rx ry ⟨κ, g, db, da, b, Sa, Sb, c, ra, rb, e, q⟩
  dsimp only at e
  unfold ltD at e
  obtain ⟨p, e1, e⟩ := Option.bind_eq_some_iff.mp e
  obtain ⟨r, e2, e⟩ := Option.bind_eq_some_iff.mp e
  split at e
  · next h =>
    obtain ⟨h1, h3⟩ := Bool.and_eq_true_iff.mp h
    obtain ⟨h1, h2⟩ := Bool.and_eq_true_iff.mp h1
    have h2 := of_decide_eq_true h2
    cases e
    obtain ⟨as, r1⟩ := Dp.reads I r x v (ra.dp r e2) rx
    obtain ⟨bs, r2⟩ := Dp.reads I p y u (rb.dp p e1) ry
    have hm : min r.depth p.depth ≤ p.depth := Nat.min_le_right _ _
    have hn : r ≠ .none := PySem.W.ne_none_both h1 (by rintro rfl; cases h3)
    exact PySem.W.gt_data r1 r2 (by rw [PySem.W.alike_comm]; exact h1) hn (by omega) ⟨.bl _, H, I, rfl, q⟩
  · cases e
theorem leR (hu : X.A.units + 66 < cLine) : OpR X (compareOp .LtE) (rC2 (gam X) fun a b => (ltD b a).map not) := by
  intro pins s σ H x y v u Q I rx ry ⟨κ, g, db, da, b, Sa, Sb, c, ra, rb, e, q⟩
  obtain ⟨b', e', rfl⟩ := Option.map_eq_some_iff.mp (show Option.map _ _ = _ from e)
  clear e
  have e := e'
  clear e'
  unfold ltD at e
  obtain ⟨p, e1, e⟩ := Option.bind_eq_some_iff.mp e
  obtain ⟨r, e2, e⟩ := Option.bind_eq_some_iff.mp e
  split at e
  · next h =>
    obtain ⟨h1, h3⟩ := Bool.and_eq_true_iff.mp h
    obtain ⟨h1, h2⟩ := Bool.and_eq_true_iff.mp h1
    have h2 := of_decide_eq_true h2
    cases e
    obtain ⟨as, r1⟩ := Dp.reads I r x v (ra.dp r e2) rx
    obtain ⟨bs, r2⟩ := Dp.reads I p y u (rb.dp p e1) ry
    have hm : min r.depth p.depth ≤ p.depth := Nat.min_le_right _ _
    have hn : r ≠ .none := PySem.W.ne_none_both h1 (by rintro rfl; cases h3)
    exact PySem.W.le_data r1 r2 (by rw [PySem.W.alike_comm]; exact h1) hn (by omega) ⟨.bl _, H, I, rfl, q⟩
  · cases e
theorem geR (hu : X.A.units + 66 < cLine) : OpR X (compareOp .GtE) (rC2 (gam X) fun a b => (ltD a b).map not) := by
  intro pins s σ H x y v u Q I rx ry ⟨κ, g, da, db, b, Sa, Sb, c, ra, rb, e, q⟩
  obtain ⟨b', e', rfl⟩ := Option.map_eq_some_iff.mp (show Option.map _ _ = _ from e)
  clear e
  have e := e'
  clear e'
  unfold ltD at e
  obtain ⟨p, e1, e⟩ := Option.bind_eq_some_iff.mp e
  obtain ⟨r, e2, e⟩ := Option.bind_eq_some_iff.mp e
  split at e
  · next h =>
    obtain ⟨h1, h3⟩ := Bool.and_eq_true_iff.mp h
    obtain ⟨h1, h2⟩ := Bool.and_eq_true_iff.mp h1
    have h2 := of_decide_eq_true h2
    cases e
    obtain ⟨as, r1⟩ := Dp.reads I p x v (ra.dp p e1) rx
    obtain ⟨bs, r2⟩ := Dp.reads I r y u (rb.dp r e2) ry
    have hm : min p.depth r.depth ≤ p.depth := Nat.min_le_left _ _
    exact PySem.W.ge_data r1 r2 h1 (by rintro rfl; cases h3) (by omega) ⟨.bl _, H, I, rfl, q⟩
  · cases e
theorem strPair_some {a b : D} {p : Str × Str} (h : strPair a b = some p) : a = .str p.1 ∧ b = .str p.2 := by
  unfold strPair at h
  split at h
  · cases h; exact ⟨rfl, rfl⟩
  · cases h
theorem dec_str (x y : Str) : decide (V.str x = V.str y) = decide (x = y) := by
  by_cases h : x = y
  · rw [h, decide_eq_true rfl, decide_eq_true rfl]
  · rw [decide_eq_false h, decide_eq_false fun z => h (V.str.inj z)]
theorem eqR (hu : X.A.units + 66 < cLine) : OpR X (compareOp .Eq) (rC2 (gam X) eqD) := by
  intro pins s σ H x y v u Q I rx ry ⟨κ, g, da, db, b, Sa, Sb, c, ra, rb, e, q⟩
  unfold eqD at e
  split at e
  · rename_i p hp
    obtain ⟨rfl, rfl⟩ := strPair_some hp
    cases ra; cases rb; cases e
    exact op_eq pins s σ H _ _ v u Q I rx ry ⟨rfl, by rw [dec_str]; exact q⟩
  obtain ⟨p, e1, e⟩ := Option.bind_eq_some_iff.mp e
  obtain ⟨r, e2, e⟩ := Option.bind_eq_some_iff.mp e
  split at e
  · next h =>
    obtain ⟨h1, h2⟩ := Bool.and_eq_true_iff.mp h
    cases e
    exact op_eqD (by omega) pins s σ H x y v u Q I rx ry ⟨p, r, ra.dp p e1, rb.dp r e2, h1, h2, q⟩
  · cases e
theorem neR (hu : X.A.units + 66 < cLine) : OpR X (compareOp .NotEq) (rC2 (gam X) fun a b => (eqD a b).map not) := by
  intro pins s σ H x y v u Q I rx ry ⟨κ, g, da, db, b, Sa, Sb, c, ra, rb, e, q⟩
  obtain ⟨b', e', rfl⟩ := Option.map_eq_some_iff.mp (show Option.map _ _ = _ from e)
  clear e
  have e := e'
  clear e'
  unfold eqD at e
  split at e
  · rename_i p hp
    obtain ⟨rfl, rfl⟩ := strPair_some hp
    cases ra; cases rb; cases e
    exact op_ne pins s σ H _ _ v u Q I rx ry ⟨rfl, by rw [dec_str]; exact q⟩
  obtain ⟨p, e1, e⟩ := Option.bind_eq_some_iff.mp e
  obtain ⟨r, e2, e⟩ := Option.bind_eq_some_iff.mp e
  split at e
  · next h =>
    obtain ⟨h1, h2⟩ := Bool.and_eq_true_iff.mp h
    cases e
    exact op_neD (by omega) pins s σ H x y v u Q I rx ry ⟨p, r, ra.dp p e1, rb.dp r e2, h1, h2, q⟩
  · cases e
end
end VL
/-! V6: in, is, subscripts, slices, truth. -/
namespace VL
open PySem L2 PyProof.Rows
section
variable {Γ : Gam} {κ κ1 κ2 : List Addr} {H H1 H2 : Hp} {g g1 g2 : G} {O S : List Addr} {n : Nat} {v : V} {d : D}
/-! ### look-ups -/
theorem lkey_inj {a b : NestedKey} {k : Key} (h : lkey a = some k) (h' : lkey b = some k) : a = b := by
  cases a <;> cases b <;> simp [lkey] at h h' <;> subst h <;> simp_all
theorem look_nil {α : Type} (k : NestedKey) : look ([] : List (NestedKey × α)) k = none := rfl
theorem look_pos {α : Type} {p : NestedKey × α} {r : List (NestedKey × α)} {k : NestedKey} (e : p.1 = k) : look (p :: r) k = some p.2 := by simp [look, List.find?_cons, e]
theorem look_neg {α : Type} {p : NestedKey × α} {r : List (NestedKey × α)} {k : NestedKey} (e : ¬ p.1 = k) : look (p :: r) k = look r k := by simp [look, List.find?_cons, e]
theorem look_leaf {nk : NestedKey} {k : Key} (hk : lkey nk = some k) : ∀ (kvs : List (Key × V)) (ds : List (NestedKey × D)), KE kvs ds → ∀ {O S : List Addr}, RepL Γ κ H 0 (kvs.map (·.2)) (ds.map (·.2)) O S →
    (look ds nk = none ∧ valV kvs k = none) ∨ ∃ d v S', look ds nk = some d ∧ valV kvs k = some v ∧ Rep Γ κ H 0 v d [] S' ∧ ∀ a ∈ S', a ∈ S
  | [], [], _, _, _, _ => .inl ⟨rfl, rfl⟩
  | [], _ :: _, q, _, _, _ => by simp [KE] at q
  | _ :: _, [], q, _, _, _ => by simp [KE] at q
  | (k1, v1) :: kvs, (n1, d1) :: ds, q, _, _, r => by
    simp only [KE, List.map_cons, List.cons.injEq] at q
    cases r with
    | cons h t =>
      have e0 := h.own0; subst e0
      by_cases e : n1 = nk
      · subst e
        have e2 : k1 = k := by rw [hk] at q; exact (Option.some.inj q.1).symm
        exact .inr ⟨d1, v1, _, look_pos rfl, valV_pos e2, h, fun a z => List.mem_append_left _ z⟩
      · have e2 : ¬ k1 = k := fun z => e (lkey_inj (q.1.trans (by rw [z])) hk)
        rw [look_neg (p := (n1, d1)) e, valV_neg (p := (k1, v1)) e2]
        rcases look_leaf hk kvs ds q.2 t with z | ⟨d, v, S', a, b, c, l⟩
        · exact .inl z
        · exact .inr ⟨d, v, S', a, b, c, fun x z => List.mem_append_right _ (l x z)⟩
theorem atKey_nil {k : NestedKey} : atKey ([] : List (NestedKey × Addr × Value)) k = none := rfl
theorem atKey_pos {p : NestedKey × Addr × Value} {r : List (NestedKey × Addr × Value)} {k : NestedKey} (e : p.1 = k) : atKey (p :: r) k = some p.2 := by simp [atKey, List.find?_cons, e]
theorem atKey_neg {p : NestedKey × Addr × Value} {r : List (NestedKey × Addr × Value)} {k : NestedKey} (e : ¬ p.1 = k) : atKey (p :: r) k = atKey r k := by simp [atKey, List.find?_cons, e]
abbrev PX : List (NestedKey × Addr × V) → List (NestedKey × Addr × Value) → Prop := Paired fun p q => p.1 = q.1 ∧ p.2.1 = q.2.1 ∧ L2.RelV p.2.2 q.2.2
theorem look_nest {K : PySem.W.Frag} {nk : NestedKey} : ∀ {kvs : List (NestedKey × Addr × V)} {xs : List (NestedKey × Addr × Value)}, PX kvs xs → ∀ {ds : List (NestedKey × D)}, NE K H kvs ds → ∀ {O S : List Addr}, RepL Γ κ H 0 (kvs.map (·.2.2)) (ds.map (·.2)) O S →
    (look ds nk = none ∧ atKey xs nk = none) ∨ ∃ d v u q S', look ds nk = some d ∧ atKey xs nk = some (q, u) ∧ L2.RelV v u ∧ Rep Γ κ H 0 v d [] S' ∧ ∀ a ∈ S', a ∈ S
  | _, _, .nil, _, nn, _, _, _ => by cases nn; exact .inl ⟨rfl, rfl⟩
  | _, _, .cons (a := p) (b := x) r t, _, nn, _, _, q => by
    cases nn with
    | cons w ws =>
      rename_i y ys
      cases q with
      | cons h tt =>
        have e0 := h.own0; subst e0
        by_cases e : y.1 = nk
        · refine .inr ⟨y.2, p.2.2, x.2.2, x.2.1, _, look_pos e, atKey_pos (by rw [← r.1, w.1, e]), r.2.2, h, fun a z => List.mem_append_left _ z⟩
        · rw [look_neg e, atKey_neg (p := x) (by rw [← r.1, w.1]; exact e)]
          rcases look_nest t ws tt with z | ⟨d, v, u, q, S', a, b, b2, c, l⟩
          · exact .inl z
          · exact .inr ⟨d, v, u, q, S', a, b, b2, c, fun x z => List.mem_append_right _ (l x z)⟩
theorem leaf_key {k : NestedKey} {x : V} {K : PySem.W.Frag} (h : keyFits false k = true) (r : KeyR K H k x) : ∃ kk, lkey k = some kk ∧ x = kV kk := by
  cases r with
  | none => cases h
  | num i => exact ⟨Sum.inl i, rfl, rfl⟩
  | text y => exact ⟨Sum.inr y, rfl, rfl⟩
  | tup a b => cases h
theorem tup_key {k : NestedKey} {x : V} {K : PySem.W.Frag} (h : keyFits true k = true) (r : KeyR K H k x) : k.depth ≤ 8 ∧ ∃ a, x = .ref a := by
  obtain ⟨h1, h2⟩ := Bool.and_eq_true_iff.mp (show (tupKey k && decide (k.depth ≤ 8)) = true from h)
  refine ⟨of_decide_eq_true h2, ?_⟩
  cases r with
  | none => cases h1
  | num i => cases h1
  | text y => cases h1
  | tup a b => exact ⟨_, rfl⟩
end
section
variable {X : Cx}
/-- a cell that is no address of a tuple's key -/
theorem inR (neg : Bool) (hu : X.A.units + 66 < cLine) : OpR X (compareOp (if neg then .NotIn else .In)) (rC2 (gam X) fun a b => (inD a b).map fun k => if neg then !k else k) := by
  intro pins s σ H x y v u Q I rx ry ⟨κ, g, da, db, b, Sa, Sb, c, ra, rb, e, q⟩
  obtain ⟨b', e', hb⟩ := Option.map_eq_some_iff.mp (show Option.map _ _ = _ from e)
  clear e
  have cl := c.cl
  unfold inD at e'
  split at e'
  · next kvs0 =>
    obtain ⟨k, ek, e'⟩ := Option.bind_eq_some_iff.mp e'
    split at e'
    · next hf =>
      have hb' := Option.some.inj e'
      have kr := ra.keyR k ek
      cases rb with
      | @dic0 _ kvs _ _ _ hr kk rr =>
        have hr := rd_of hr
        obtain ⟨kk', h1, rfl⟩ := leaf_key hf kr
        have g : DGet H _ (kV kk') (valV kvs kk') := .inl ⟨_, kk', hr, rfl, rfl⟩
        have hb2 : (valV kvs kk').isSome = b' := by
          rcases look_leaf h1 _ _ kk.1 rr with ⟨z1, z2⟩ | ⟨d, v, S', z1, z2, _⟩
          · rw [z2]; rw [z1] at hb'; exact hb'
          · rw [z2]; rw [z1] at hb'; exact hb'
        cases (show u = Value.ref _ from ry)
        cases neg with
        | false => exact d_in (by omega) I g rx fun s3 I3 => ⟨.bl _, H, I3, rfl, by rw [hb2]; subst hb; exact q⟩
        | true => exact d_notIn (by omega) I g rx fun s3 I3 => ⟨.bl _, H, I3, rfl, by rw [hb2]; subst hb; exact q⟩
      | nic0 hr nn rr =>
        obtain ⟨hd8, a, rfl⟩ := tup_key hf kr
        obtain ⟨_, hs, xs, px, dd⟩ := dn_rd I hr nn.1
        have hkey : (nestedKind X.prog X.w).is s.heap k a := ⟨KeyR.is I kr rfl, hd8⟩
        have hb2 : (atKey xs k).isSome = b' := by
          rcases look_nest (nk := k) px nn.1 rr with ⟨z1, z2⟩ | ⟨d, v, u, q, S', z1, z2, _⟩
          · rw [z2]; rw [z1] at hb'; exact hb'
          · rw [z2]; rw [z1] at hb'; exact hb'
        cases (show u = Value.ref _ from ry)
        cases (show v = Value.ref _ from rx)
        cases neg with
        | false => exact wpAny_in_heap (by show X.A.in1.units + 8 < cLine; show X.A.units + 1 + 8 < cLine; omega) hkey hs dd ⟨.bl _, H, I.tok _, rfl, by rw [hb2]; subst hb; exact q⟩
        | true => exact wpAny_notIn_heap (by show X.A.units + 1 + 8 < cLine; omega) hkey hs dd ⟨.bl _, H, I.tok _, rfl, by rw [hb2]; subst hb; exact q⟩
    · cases e'
  · obtain ⟨p, e1, e'⟩ := Option.bind_eq_some_iff.mp e'
    obtain ⟨r, e2, e'⟩ := Option.bind_eq_some_iff.mp e'
    split at e'
    · next h =>
      obtain ⟨h1, h2⟩ := Bool.and_eq_true_iff.mp h
      have hb' := Option.some.inj e'
      subst hb'
      have rb' := rb.dp (.list r) (by rw [D.data, e2]; rfl)
      cases neg with
      | false => exact op_inD (by omega) pins s σ H x y v u Q I rx ry ⟨p, r, ra.dp p e1, rb', h1, h2, by subst hb; exact q⟩
      | true => exact op_notInD (by omega) pins s σ H x y v u Q I rx ry ⟨p, r, ra.dp p e1, rb', h1, h2, by subst hb; exact q⟩
    · cases e'
  · obtain ⟨p, e1, e'⟩ := Option.bind_eq_some_iff.mp e'
    obtain ⟨r, e2, e'⟩ := Option.bind_eq_some_iff.mp e'
    split at e'
    · next h =>
      obtain ⟨h1, h2⟩ := Bool.and_eq_true_iff.mp h
      have hb' := Option.some.inj e'
      subst hb'
      have rb' := rb.dp (.tuple r) (by rw [D.data, e2]; rfl)
      obtain ⟨as, r1⟩ := Dp.reads I p x v (ra.dp p e1) rx
      obtain ⟨bs, r2⟩ := Dp.reads I (.tuple r) y u rb' ry
      have cl2 := SeqAt.canLay_of_shaped h2
      cases neg with
      | false => exact SeqAt.in_tuple_reads r2 r1 cl2 (SeqAt.canLay_of_shaped h1) (room_in_shaped h1 (by omega)) ⟨.bl _, H, I, rfl, by subst hb; exact q⟩
      | true => exact SeqAt.notIn_tuple_reads r2 r1 cl2 (SeqAt.canLay_of_shaped h1) (room_in_shaped h1 (by omega)) ⟨.bl _, H, I, rfl, by subst hb; exact q⟩
    · cases e'
  · split at e'
    · have hb' := Option.some.inj e'
      subst hb'
      cases ra; cases rb
      cases neg with
      | false => exact op_in_sign pins s σ H _ _ v u Q I rx ry ⟨_, _, rfl, rfl, by subst hb; exact q⟩
      | true => exact op_notIn_sign pins s σ H _ _ v u Q I rx ry ⟨_, _, rfl, rfl, by subst hb; exact q⟩
    · cases e'
  · cases e'

theorem Rep.notNone {Γ : Gam} {κ : List Addr} {H : Hp} {n : Nat} {v : V} {d : D} {O S : List Addr} (r : Rep Γ κ H n v d O S) (h : isD d .non = some false) : v ≠ .non := by
  cases r <;> first | (intro z; cases z; done) | (simp [isD] at h)
theorem isR (neg : Bool) : OpR X (compareOp (if neg then .IsNot else .Is)) (rC2 (gam X) fun a b => (isD a b).map fun k => if neg then !k else k) := by
  intro pins s σ H x y v u Q I rx ry ⟨κ, g, da, db, b, Sa, Sb, c, ra, rb, e, q⟩
  obtain ⟨b', e', hb⟩ := Option.map_eq_some_iff.mp (show Option.map _ _ = _ from e)
  clear e
  subst hb
  have hnon : ∀ d : D, db = .non → isD da db = some false → x ≠ .non := fun d h h2 => ra.notNone (by rw [← h]; exact h2)
  by_cases hd : db = .non
  · subst hd
    cases rb
    cases b' with
    | false =>
      have hx : x ≠ .non := ra.notNone e'
      cases neg with
      | false => exact op_isN pins s σ H x _ v u Q I rx ry ⟨rfl, by rw [decide_eq_false hx]; exact q⟩
      | true => exact op_notN pins s σ H x _ v u Q I rx ry ⟨rfl, by rw [decide_eq_false hx]; exact q⟩
    | true =>
      have hx : x = .non := by
        cases da <;> simp [isD] at e'
        cases ra; rfl
      subst hx
      cases neg with
      | false => exact op_isN pins s σ H _ _ v u Q I rx ry ⟨rfl, q⟩
      | true => exact op_notN pins s σ H _ _ v u Q I rx ry ⟨rfl, q⟩
  · unfold isD at e'
    split at e' <;> try (exact absurd rfl hd)
    · cases e'
      cases ra; cases rb
      cases neg with
      | false => exact op_isBl pins s σ H _ _ v u Q I rx ry ⟨_, _, rfl, rfl, by rw [← Bool.beq_eq_decide_eq]; exact q⟩
      | true => exact op_notBl pins s σ H _ _ v u Q I rx ry ⟨_, _, rfl, rfl, by rw [← Bool.beq_eq_decide_eq]; exact q⟩
    · cases e'
theorem cmpR (o : CO) (hu : X.A.units + 66 < cLine) : OpR X (compareOp (opC o)) (rC2 (gam X) (cmpD o)) := by
  cases o with
  | eq => exact eqR hu
  | ne => exact neR hu
  | lt => exact ltR hu
  | le => exact leR hu
  | gt => exact gtR hu
  | ge => exact geR hu
  | isin => exact OpR.imp (f := compareOp .In) (inR false hu) fun x y H Q ⟨κ, g, da, db, b, Sa, Sb, c, ra, rb, e, q⟩ => ⟨κ, g, da, db, b, Sa, Sb, c, ra, rb, by show Option.map _ (inD da db) = _; rw [show inD da db = some b from e]; rfl, q⟩
  | notin => exact OpR.imp (f := compareOp .NotIn) (inR true hu) fun x y H Q ⟨κ, g, da, db, b, Sa, Sb, c, ra, rb, e, q⟩ => ⟨κ, g, da, db, b, Sa, Sb, c, ra, rb, by
      obtain ⟨b', e', rfl⟩ := Option.map_eq_some_iff.mp (show Option.map _ _ = _ from e)
      show Option.map _ (inD da db) = _
      rw [e']; rfl, q⟩
  | is => exact OpR.imp (f := compareOp .Is) (isR false) fun x y H Q ⟨κ, g, da, db, b, Sa, Sb, c, ra, rb, e, q⟩ => ⟨κ, g, da, db, b, Sa, Sb, c, ra, rb, by show Option.map _ (isD da db) = _; rw [show isD da db = some b from e]; rfl, q⟩
  | isnot => exact OpR.imp (f := compareOp .IsNot) (isR true) fun x y H Q ⟨κ, g, da, db, b, Sa, Sb, c, ra, rb, e, q⟩ => ⟨κ, g, da, db, b, Sa, Sb, c, ra, rb, by
      obtain ⟨b', e', rfl⟩ := Option.map_eq_some_iff.mp (show Option.map _ _ = _ from e)
      show Option.map _ (isD da db) = _
      rw [e']; rfl, q⟩
/-! ### subscripts -/
theorem RepL.atI {Γ : Gam} {κ : List Addr} {H : Hp} {vs : List V} {ds : List D} {O S : List Addr} (r : RepL Γ κ H 0 vs ds O S) {i : Int} {d : D} (h : L2.atI ds i = some d) : ∃ v S', L2.atI vs i = some v ∧ Rep Γ κ H 0 v d [] S' ∧ ∀ a ∈ S', a ∈ S := by
  unfold L2.atI at h ⊢
  obtain ⟨j, e1, e2⟩ := Option.bind_eq_some_iff.mp h
  obtain ⟨v, S', a, b, c⟩ := r.pick j d e2
  exact ⟨v, S', by rw [r.len, e1]; exact a, b, c⟩
def rIxD (Γ : Gam) : R2 := fun x y H Q => ∃ κ g da db d Sa Sb, CellR Γ κ H g ∧ Rep Γ κ H 0 x da [] Sa ∧ Rep Γ κ H 0 y db [] Sb ∧ subscr g da db = some d ∧ ∀ v S', Rep Γ κ H 0 v d [] S' → (∀ a ∈ S', a ∈ Sa) → Q v H
theorem ixR (hu : X.A.units + 66 < cLine) : IxR X (rIxD (gam X)) := by
  intro value slice pins s σ H x y v u Q I rx ry ⟨κ, g, da, db, d, Sa, Sb, c, ra, rb, e, q⟩ hs
  unfold subscr at e
  split at e
  · cases ra with
    | lst0 h n r =>
      cases rb
      obtain ⟨w, S', a, b, l⟩ := r.atI e
      exact ix_list value slice pins s σ H _ _ v u Q I rx ry ⟨_, _, _, w, rfl, rfl, .of h, a, q w S' b fun x z => List.mem_cons_of_mem _ (l x z)⟩ hs
  · cases ra with
    | tup h r =>
      cases rb
      have e0 := r.own0
      obtain ⟨w, S', a, b, l⟩ := r.atI e
      exact ix_tup value slice pins s σ H _ _ v u Q I rx ry ⟨_, _, _, w, rfl, rfl, h, a, q w S' b l⟩ hs
  · split at e
    · next hz =>
      obtain ⟨cc, e1, rfl⟩ := Option.map_eq_some_iff.mp e
      cases ra; cases rb
      exact ix_str value slice pins s σ H _ _ v u Q I rx ry ⟨_, _, cc, rfl, rfl, sz_line hz, e1, q _ [] .str (by simp)⟩ hs
    · cases e
  · obtain ⟨k, ek, e1⟩ := Option.bind_eq_some_iff.mp e
    clear e
    split at e1
    · next hf =>
      have kr := rb.keyR k ek
      cases ra with
      | @dic0 _ kvs _ _ _ hr kk rr =>
        have hr := rd_of hr
        obtain ⟨kk', h1, rfl⟩ := leaf_key hf kr
        rcases look_leaf h1 _ _ kk.1 rr with ⟨z1, z2⟩ | ⟨d', w, S', z1, z2, z3, z4⟩
        · rw [z1] at e1; cases e1
        · rw [z1] at e1; cases e1
          have gg : DGet H _ (kV kk') (some w) := .inl ⟨kvs, kk', hr, rfl, z2.symm⟩
          cases (show v = Value.ref _ from rx)
          exact tail_any (dict_typeIs I gg) PySem.F.slot_dict_getitem.lookup (d_getItem (by omega) I gg ry fun w' s3 I3 rw' => ⟨w, H, I3, rw', q w S' z3 fun x z => List.mem_cons_of_mem _ (z4 x z)⟩) hs
      | nic0 hr nn rr =>
        obtain ⟨hd8, a, rfl⟩ := tup_key hf kr
        obtain ⟨_, hs', xs, px, dd⟩ := dn_rd I hr nn.1
        have hkey : (nestedKind X.prog X.w).is s.heap k a := ⟨KeyR.is I kr rfl, hd8⟩
        rcases look_nest (nk := k) px nn.1 rr with ⟨z1, z2⟩ | ⟨d', w, u', qq, S', z1, z2, z3, z4, z5⟩
        · rw [z1] at e1; cases e1
        · rw [z1] at e1; cases e1
          cases (show v = Value.ref _ from rx)
          cases (show u = Value.ref _ from ry)
          exact tail_any dd.typeIs PySem.F.slot_dict_getitem.lookup (wpAny_getItem_heap (by show X.A.units + 1 + 8 < cLine; omega) hkey dd z2 ⟨w, H, I.tok _, z3, q w S' z4 fun x z => List.mem_cons_of_mem _ (z5 x z)⟩) hs
    · cases e1
  · obtain ⟨xs, e1, e⟩ := Option.bind_eq_some_iff.mp e
    cases ra with
    | cel h =>
      cases rb
      obtain ⟨vs, h2, r⟩ := c.at_ _ _ _ h e1
      obtain ⟨w, S', a, b, l⟩ := r.atI e
      exact ix_list value slice pins s σ H _ _ v u Q I rx ry ⟨_, _, _, w, rfl, rfl, .of h2, a, q w S' b fun x z => by cases l x z⟩ hs
  · cases e
end
end VL
/-! V7: built-in functions and classes that are called. -/
namespace VL
open PySem L2 PyProof.Rows
/-- the readings of a call of a built-in -/
def rBui (Γ : Gam) (b : Bui) (n : Nat) : List V → Hp → VK → Prop := fun vs H Q => ∃ κ g ds d S, CellR Γ κ H g ∧ RepL Γ κ H 0 vs ds [] S ∧ bui g b ds = some d ∧ ∀ v H' O S', Made Γ κ H S H' n v d O S' → Q v H'
section
variable {Γ : Gam} {κ κ1 κ2 : List Addr} {H H1 H2 : Hp} {g g1 g2 : G} {O S Sin : List Addr} {n : Nat} {v : V} {d : D} {vs : List V} {ds : List D}
theorem RepL.one {vs : List V} {d : D} {O S : List Addr} (r : RepL Γ κ H n vs [d] O S) : ∃ v, vs = [v] ∧ Rep Γ κ H n v d O S := by
  cases r with
  | cons h t => cases t; exact ⟨_, rfl, by simpa using h⟩
theorem RepL.two {vs : List V} {d e : D} {O S : List Addr} (r : RepL Γ κ H 0 vs [d, e] O S) : ∃ v w S1 S2, vs = [v, w] ∧ Rep Γ κ H 0 v d [] S1 ∧ Rep Γ κ H 0 w e [] S2 ∧ ∀ a, a ∈ S1 ∨ a ∈ S2 → a ∈ S := by
  cases r with
  | cons h t =>
    obtain ⟨w, rfl, t'⟩ := t.one
    have e1 := h.own0; have e2 := t'.own0; subst e1; subst e2
    exact ⟨_, w, _, _, rfl, h, t', fun a z => List.mem_append.mpr z⟩
theorem RepL.toInts : ∀ {vs : List V} {ds : List D} {O S : List Addr}, RepL Γ κ H n vs ds O S → ∀ {is : List Int}, allSome (ds.map asInt) = some is → vs = is.map V.int
  | _, _, _, _, .nil, is, h => by cases h; rfl
  | _, _, _, _, .cons (d := d) r t, is, h => by
    rw [List.map_cons, allSome] at h
    obtain ⟨i, e1, h⟩ := Option.bind_eq_some_iff.mp h
    obtain ⟨js, e2, rfl⟩ := Option.map_eq_some_iff.mp h
    have q := RepL.toInts t e2
    cases d <;> simp [asInt] at e1
    subst e1; subst q
    cases r; rfl
theorem RepL.toBools : ∀ {vs : List V} {ds : List D} {O S : List Addr}, RepL Γ κ H n vs ds O S → ∀ {is : List Bool}, allSome (ds.map asBool) = some is → vs = is.map V.bl
  | _, _, _, _, .nil, is, h => by cases h; rfl
  | _, _, _, _, .cons (d := d) r t, is, h => by
    rw [List.map_cons, allSome] at h
    obtain ⟨i, e1, h⟩ := Option.bind_eq_some_iff.mp h
    obtain ⟨js, e2, rfl⟩ := Option.map_eq_some_iff.mp h
    have q := RepL.toBools t e2
    cases d <;> simp [asBool] at e1
    subst e1; subst q
    cases r; rfl
theorem RepL.toStrs : ∀ {vs : List V} {ds : List D} {O S : List Addr}, RepL Γ κ H n vs ds O S → ∀ {is : List Str}, allSome (ds.map asStr) = some is → vs = is.map V.str
  | _, _, _, _, .nil, is, h => by cases h; rfl
  | _, _, _, _, .cons (d := d) r t, is, h => by
    rw [List.map_cons, allSome] at h
    obtain ⟨i, e1, h⟩ := Option.bind_eq_some_iff.mp h
    obtain ⟨js, e2, rfl⟩ := Option.map_eq_some_iff.mp h
    have q := RepL.toStrs t e2
    cases d <;> simp [asStr] at e1
    subst e1; subst q
    cases r; rfl
theorem ScrR.sq {K : PySem.W.Frag} {H : Hp} {a : Addr} {is : List Int} (h : ScrR K H a is) : SqL K H a (is.map V.int) := by
  rcases h with ⟨o, h⟩ | h
  · exact .inl (.inr ⟨o, h⟩)
  · exact .inr h
theorem pairs_keys {P : Program} {w : World} : ∀ {es : List DictEntry} {vs : List (Key × Value)}, Pairs (mixKind P w) es vs → ∀ {kvs : List (Key × V)}, KV kvs vs → Vals (kvs.map fun p => kV p.1) (es.map (·.key))
  | _, _, .nil, kvs, h => by cases h; exact .nil
  | _, _, .cons h1 h2 t, kvs, h => by
    cases h with
    | cons r rr =>
      refine .cons ?_ (pairs_keys t rr)
      show L2.RelV (kV _) _
      rw [r.1]; exact relV_key h1
theorem pairs_vals {P : Program} {w : World} : ∀ {es : List DictEntry} {vs : List (Key × Value)}, Pairs (mixKind P w) es vs → ∀ {kvs : List (Key × V)}, KV kvs vs → Vals (kvs.map (·.2)) (es.map (·.val))
  | _, _, .nil, kvs, h => by cases h; exact .nil
  | _, _, .cons h1 h2 t, kvs, h => by
    cases h with
    | cons r rr =>
      refine .cons ?_ (pairs_vals t rr)
      show L2.RelV _ (DictEntry.val _)
      rw [h2]; exact r.2
theorem lkey_rep {nk : NestedKey} {k : Key} (h : lkey nk = some k) : Rep Γ κ H n (kV k) (ofKey nk) [] [] := by
  cases nk <;> simp [lkey] at h <;> subst h <;> rw [ofKey]
  · exact .int
  · exact .str
theorem kk_rep : ∀ {kvs : List (Key × V)} {ds : List (NestedKey × D)}, KE kvs ds → RepL Γ κ H n (kvs.map fun p => kV p.1) (ds.map fun p => ofKey p.1) [] []
  | [], [], _ => .nil
  | [], _ :: _, q => by simp [KE] at q
  | _ :: _, [], q => by simp [KE] at q
  | (k1, v1) :: kvs, (n1, d1) :: ds, q => by
    simp only [KE, List.map_cons, List.cons.injEq] at q
    exact .cons (O1 := []) (S1 := []) (lkey_rep q.1) (kk_rep q.2)
theorem nn_rep : ∀ {kvs : List (NestedKey × Addr × V)} {ds : List (NestedKey × D)}, NE Γ.K H kvs ds → RepL Γ κ H n (kvs.map fun p => V.ref p.2.1) (ds.map fun p => ofKey p.1) [] []
  | _, _, .nil => .nil
  | _, _, .cons r t => .cons (O1 := []) (S1 := []) (KeyR.rep r.2.2) (nn_rep t)
theorem px_keys : ∀ {kvs : List (NestedKey × Addr × V)} {xs : List (NestedKey × Addr × Value)}, PX kvs xs → Vals (kvs.map fun p => V.ref p.2.1) (xs.map fun x => Value.ref x.2.1)
  | _, _, .nil => .nil
  | _, _, .cons r t => .cons (congrArg Value.ref r.2.1.symm) (px_keys t)
theorem px_vals : ∀ {kvs : List (NestedKey × Addr × V)} {xs : List (NestedKey × Addr × Value)}, PX kvs xs → Vals (kvs.map (·.2.2)) (xs.map (·.2.2))
  | _, _, .nil => .nil
  | _, _, .cons r t => .cons r.2.2 (px_vals t)
end
section
variable {X : Cx} {pins : List (Addr × Obj)} {σ : L2.St} {H : Hp} {s : Shared} {κ : List Addr} {g : G}
/-- a dict's keys and values, in their order, and the entries in the heap -/
theorem dic_raw (I : Inv X pins σ H s) {a : Addr} {n : Bool} {ds : List (NestedKey × D)} {S : List Addr} (r : Rep (gam X) κ H 0 (.ref a) (.dic n ds) [] S) :
    (a == sysModules) = false ∧ ds.length ≤ sizeLine ∧ ∃ (es : Array DictEntry) (ep : Nat) (vs ws : List V) (S' : List Addr), s.heap.DictRaw a es ep ∧ es.size = ds.length ∧ Vals vs (es.toList.map (·.key)) ∧ RepL (gam X) κ H 0 vs (ds.map fun p => ofKey p.1) [] [] ∧
      Vals ws (es.toList.map (·.val)) ∧ RepL (gam X) κ H 0 ws (ds.map (·.2)) [] S' ∧ ∀ a ∈ S', a ∈ S := by
  cases r with
  | @dic0 _ kvs _ _ _ hr kk rr =>
    have hr := rd_of hr
    obtain ⟨z, lo, vs, rel, dd⟩ := dk_rd I.hok hr
    have hlen : kvs.length = ds.length := by
      have q := congrArg List.length kk.1
      simpa using q.symm
    have hl2 : kvs.length = vs.length := Paired.length rel
    obtain ⟨o, es, ep, h1, h2, h3, h4, h5, h6⟩ := dd
    have hes : es.size = ds.length := by
      have l1 := h5.length
      rw [Array.length_toList] at l1
      omega
    exact ⟨lo, by omega, es, ep, _, _, _, ⟨o, h1, h2, h3⟩, hes, pairs_keys h5 rel, kk_rep kk.1, pairs_vals h5 rel, rr, fun a z => List.mem_cons_of_mem _ z⟩
  | @nic0 _ kvs _ _ _ hr nn rr =>
    obtain ⟨z, lo, xs, px, o, es, ep, h1, h2, h3, h4, h5, h6⟩ := dn_rd I hr nn.1
    have hl1 : kvs.length = ds.length := Paired.length nn.1
    have hl2 : kvs.length = xs.length := Paired.length px
    have hes : es.size = ds.length := by
      have l1 := congrArg List.length h4
      rw [Array.length_toList, List.length_map] at l1
      omega
    refine ⟨lo, by omega, es, ep, _, _, _, ⟨o, h1, h2, h3⟩, hes, ?_, nn_rep nn.1, ?_, rr, fun a z => List.mem_cons_of_mem _ z⟩
    · rw [h4, List.map_map]; exact px_keys px
    · rw [h4, List.map_map]; exact px_vals px
theorem itemsOf_keys {es : Array DictEntry} {acc : Array Value} (h : ItemsOf (fun i v => ∃ hi : i < es.size, v = es[i].key) acc es.size) : acc.toList = es.toList.map (·.key) := by
  obtain ⟨h1, h2⟩ := h
  refine List.ext_getElem? fun i => ?_
  rw [Array.getElem?_toList, List.getElem?_map, Array.getElem?_toList]
  by_cases hi : i < es.size
  · have hi' : i < acc.size := by omega
    obtain ⟨_, e⟩ := h2 i acc[i] (Array.getElem?_eq_getElem hi')
    rw [Array.getElem?_eq_getElem hi', e, Array.getElem?_eq_getElem hi]; rfl
  · rw [Array.getElem?_eq_none (by omega), Array.getElem?_eq_none (by omega)]; rfl
theorem itemsOf_signs {x : Str} {acc : Array Value} (h : ItemsOf (SignAt x) acc x.cps.size) : Vals (x.cps.toList.map fun c => V.str ⟨#[c]⟩) acc.toList := by
  obtain ⟨h1, h2⟩ := h
  have go : ∀ (cs : List Nat) (us : List Value), us.length = cs.length → (∀ (i : Nat) (u : Value), us[i]? = some u → ∃ c t, cs[i]? = some c ∧ u = .str ⟨#[c]⟩ t) → Vals (cs.map fun c => V.str ⟨#[c]⟩) us := by
    intro cs
    induction cs with
    | nil => intro us hl _; cases us with
      | nil => exact .nil
      | cons _ _ => simp at hl
    | cons c cs ih =>
      intro us hl hh
      cases us with
      | nil => simp at hl
      | cons u us =>
        obtain ⟨c', t, e1, e2⟩ := hh 0 u rfl
        simp at e1; subst e1; subst e2
        refine .cons ⟨t, rfl⟩ (ih us (by simpa using hl) fun i u e => ?_)
        obtain ⟨c'', t', e3, e4⟩ := hh (i + 1) u (by simpa using e)
        exact ⟨c'', t', by simpa using e3, e4⟩
  refine go _ _ (by simp [h1]) fun i u e => ?_
  obtain ⟨c, t, e1, e2⟩ := h2 i u (by rw [← Array.getElem?_toList]; exact e)
  exact ⟨c, t, by rw [Array.getElem?_toList]; exact e1, e2⟩
theorem strs_rep {Γ : Gam} {H : Hp} {n : Nat} (l : List Nat) : RepL Γ κ H n (l.map fun c => V.str ⟨#[c]⟩) (l.map fun c => D.str ⟨#[c]⟩) [] [] := by
  induction l with
  | nil => exact .nil
  | cons c l ih => exact .cons (O1 := []) (S1 := []) .str ih
/-- collect: the items of a list, a tuple, a dict's keys -/
theorem collR (I : Inv X pins σ H s) (hc : X.calm = true) {A : Around} (hA : A.handled = none) {E : Value → Shared → Prop} {x : V} {v : Value} {d : D} {S : List Addr} {xs : List D} (r : Rep (gam X) κ H 0 x d [] S) (rx : L2.RelV x v) (hx : (match d with | .lst ys => some ys | .tup ys => some ys | .dic _ kvs => some (kvs.map fun p => ofKey p.1) | _ => none) = some xs)
    (hz : xs.length ≤ sizeLine) {R : List Value → Shared → Prop}
    (h : ∀ vs us S' h' tk, (∀ b o, s.heap.get? b = some o → h'.get? b = some o) → Vals vs us → RepL (gam X) κ H 0 vs xs [] S' → (∀ a ∈ S', a ∈ S) → R us { s with heap := h', toks := tk }) :
    wpAny (model X.prog X.w) A (collect v) R E s := by
  cases d <;> simp only [Option.some.injEq, reduceCtorEq] at hx
  · subst hx
    cases r with
    | tup ha q =>
      obtain ⟨its, r', ⟨o, ho, hcl, n, hd⟩, hz2⟩ := I.tuple ha
      cases (show v = Value.ref _ from rx)
      refine wpAny_collect_seq _ (.inr rfl) ho hcl hd (fun h' kp => ?_) (by have := r'.length; have := q.len; simp only [List.size_toArray]; omega)
      exact h _ _ _ h' s.toks kp r' q fun a z => z
  · subst hx
    cases r with
    | lst0 ha hn q =>
      obtain ⟨its, r', pl, hz2⟩ := I.list (.of ha)
      obtain ⟨o, ho, hcl, n, hd⟩ := pl.isList
      cases (show v = Value.ref _ from rx)
      refine wpAny_collect_seq _ (.inl rfl) ho hcl hd (fun h' kp => ?_) (by have := r'.length; have := q.len; simp only [List.size_toArray]; omega)
      exact h _ _ _ h' s.toks kp r' q fun a z => List.mem_cons_of_mem _ z
  · subst hx
    have ⟨a, ea⟩ : ∃ a, x = .ref a := by cases r <;> exact ⟨_, rfl⟩
    subst ea
    obtain ⟨lo, hl, es, ep, vs, ws, S', raw, hes, hv, hr, _⟩ := dic_raw I r
    cases (show v = Value.ref _ from rx)
    refine PySem.W.kdu_collect (A := A) (PySem.KdlSrc.rawDict (es := es) (ep := ep) lo) hA raw (by rw [hes]; exact hl) fun h' tk acc hk hacc => ?_
    rw [itemsOf_keys hacc]
    exact h _ _ _ h' tk hk hv hr (by simp)

/-! ### sorted -/
theorem datas_map : ∀ {ds : List D} {ps : List PyData}, D.datas ds = some ps → ps = ds.map fun d => (D.data d).getD .none
  | [], _, h => by cases h; rfl
  | d :: ds, _, h => by
    rw [D.datas] at h
    obtain ⟨p, e1, h⟩ := Option.bind_eq_some_iff.mp h
    obtain ⟨ps, e2, rfl⟩ := Option.map_eq_some_iff.mp h
    rw [List.map_cons, e1, datas_map e2]; rfl
theorem datas_mem : ∀ {ds : List D} {ps : List PyData}, D.datas ds = some ps → ∀ d ∈ ds, ∃ p, d.data = some p ∧ p ∈ ps
  | [], _, h, d, hd => by cases hd
  | d :: ds, _, h, e, hd => by
    rw [D.datas] at h
    obtain ⟨p, e1, h⟩ := Option.bind_eq_some_iff.mp h
    obtain ⟨ps, e2, rfl⟩ := Option.map_eq_some_iff.mp h
    rcases List.mem_cons.mp hd with rfl | hd
    · exact ⟨p, e1, List.mem_cons_self⟩
    · obtain ⟨q, a, b⟩ := datas_mem e2 e hd
      exact ⟨q, a, List.mem_cons_of_mem _ b⟩
def encD (d : D) : PyData := (D.data d).getD .none
theorem dle_eq (a b : D) (x y : PyData) (ha : a.data = some x) (hb : b.data = some y) : dle a b = PySem.W.dataLe false encD a b := by
  have h1 : encD a = x := by unfold encD; rw [ha]; rfl
  have h2 : encD b = y := by unfold encD; rw [hb]; rfl
  rw [PySem.W.dataLe_eq]
  unfold dle
  rw [ha, hb]
  show (!PySem.W.dataLt y x) = (!PySem.W.dataLt (encD b) (encD a))
  rw [h1, h2]
/-- merging by two orders that agree on the items -/
theorem mergeSort_congr {α : Type} {r q : α → α → Bool} : ∀ (l : List α), (∀ a ∈ l, ∀ b ∈ l, r a b = q a b) → l.mergeSort r = l.mergeSort q := by
  intro l h
  have hm : l.attach.mergeSort (fun a b => r a.1 b.1) = l.attach.mergeSort (fun a b => q a.1 b.1) := by
    congr 1
    funext a b
    exact h a.1 a.2 b.1 b.2
  have e1 : (l.attach.mergeSort (fun a b => r a.1 b.1)).map (·.1) = l.mergeSort r := by
    rw [List.map_mergeSort (r := fun a b => r a.1 b.1) (s := r) (f := fun a : {x // x ∈ l} => a.1) (fun a _ b _ => rfl)]
    simp
  have e2 : (l.attach.mergeSort (fun a b => q a.1 b.1)).map (·.1) = l.mergeSort q := by
    rw [List.map_mergeSort (r := fun a b => q a.1 b.1) (s := q) (f := fun a : {x // x ∈ l} => a.1) (fun a _ b _ => rfl)]
    simp
  rw [← e1, ← e2, hm]
theorem each_vals : ∀ {vs : List V} {us : List Value} {ds : List D} {O S : List Addr}, Vals vs us → RepL (gam X) κ H 0 vs ds O S → PySem.W.EachIs (fun u d => ∃ v S', L2.RelV v u ∧ Rep (gam X) κ H 0 v d [] S' ∧ ∀ a ∈ S', a ∈ S) us ds
  | _, _, _, _, _, .nil, .nil => .nil
  | _, _, _, _, _, .cons r rr, .cons h t => by
    have e0 := h.own0; subst e0
    exact .cons ⟨_, _, r, h, fun a z => List.mem_append_left _ z⟩ ((each_vals rr t).mono fun u d ⟨v, S', a, b, c⟩ => ⟨v, S', a, b, fun x z => List.mem_append_right _ (c x z)⟩)
theorem vals_each {S : List Addr} : ∀ {us : List Value} {ds : List D}, PySem.W.EachIs (fun u d => ∃ v S', L2.RelV v u ∧ Rep (gam X) κ H 0 v d [] S' ∧ ∀ a ∈ S', a ∈ S) us ds → ∃ vs S', Vals vs us ∧ RepL (gam X) κ H 0 vs ds [] S' ∧ ∀ a ∈ S', a ∈ S
  | _, _, .nil => ⟨[], [], .nil, .nil, by simp⟩
  | _, _, .cons ⟨v, S1, a, b, c⟩ t => by
    obtain ⟨vs, S2, a2, b2, c2⟩ := vals_each t
    exact ⟨v :: vs, S1 ++ S2, .cons a a2, .cons (O1 := []) b b2, fun x z => (List.mem_append.mp z).elim (c x) (c2 x)⟩
theorem tups_ok : ∀ ps : List PyData, tupsOk ps = true → ∀ d ∈ ps, ∃ x r, d = .tuple (x :: r)
  | [], _, d, hd => by cases hd
  | p :: ps, z, d, hd => by
    unfold tupsOk at z
    split at z
    · next e =>
      cases e
      rcases List.mem_cons.mp hd with rfl | hd
      · exact ⟨_, _, rfl⟩
      · exact tups_ok ps z d hd
    · next e => cases e
    · cases z
def keysOrItems : D → Option (List D)
  | .lst ys => some ys | .tup ys => some ys | .dic _ kvs => some (kvs.map fun p => ofKey p.1) | _ => none
theorem sortedR (hc : X.calm = true) (hu : X.A.units + 70 < cLine) : CallR X (.builtin "sorted") (fun vs H Q => ∃ κ x d xs ys S, vs = [x] ∧ Cl κ H ∧ Rep (gam X) κ H 0 x d [] S ∧ keysOrItems d = some xs ∧ sortD xs = some ys ∧
    ∀ p ws S', H p = none → RepL (gam X) κ H 0 ws ys [] S' → (∀ a ∈ S', a ∈ S) → Q (.ref p) (L2.upd H p (.lst ws))) := by
  intro pins s σ H xs0 us0 Q I r0 ⟨κ, x, d, xs, ys, S, e0, cl, r, hx, hs, q⟩
  subst e0
  obtain ⟨u, rfl, rx⟩ := vals1 r0
  unfold sortD at hs
  split at hs
  · next hso =>
    have hs := (Option.some.inj hs)
    unfold sortable at hso
    split at hso
    · next ps hps =>
      obtain ⟨h1, h3⟩ := Bool.and_eq_true_iff.mp hso
      obtain ⟨h1, h2⟩ := Bool.and_eq_true_iff.mp h1
      obtain ⟨hT, h1⟩ := Bool.and_eq_true_iff.mp h1
      have hz := sz_line h3
      have hA : X.A.in1.handled = none := I.ok.hd hc
      refine Calls.call_function_entry PyProof.Rows.kind_sorted PyProof.Rows.plain_sorted PyProof.Rows.entry_sorted (PyProof.Rows.args_sorted1 u) ?_
      unfold Builtin.«sorted»
      refine wpAny_bind (m := checkCount "sorted" 1 1 _) (wpAny_pure (wpAny_bind (collR I hc hA r rx (by cases d <;> exact hx) hz fun vs us S' h' tk hk hv hr hS => ?_)))
      have J1 : Inv X pins σ H { s with heap := h', toks := tk } := I.kept hk
      have hl : us.length = xs.length := by rw [← hv.length, hr.len]
      refine wpAny_bind (wpAny_newList ?_ (by rw [hl]; exact hz))
      have atL : (h'.push (seqObj "list" us.toArray 0)).get? h'.objs.size = some (seqObj "list" us.toArray 0) := Heap.get?_push_size _ rfl
      show wpAny _ _ _ _ _ { s with heap := h'.push (seqObj "list" us.toArray 0), toks := tk }
      have hmap : ps = xs.map encD := datas_map hps
      have hE := each_vals (X := X) hv hr
      have old : ∀ b o, h'.get? b = some o → (PySem.W.sortingHeap (h'.push (seqObj "list" us.toArray 0)) h'.objs.size us).get? b = some o := fun b o e =>
        PySem.W.sortingHeap_old (Nat.ne_of_lt (Heap.lt_size e)) (Heap.get?_push_of_some _ e)
      have rd : ∀ (b : D) (u : Value), b ∈ xs → (∃ v S', L2.RelV v u ∧ Rep (gam X) κ H 0 v b [] S' ∧ ∀ a ∈ S', a ∈ S) → ∃ as, Reads h' u (encD b) as := fun b u hb ⟨v, S', a1, a2, _⟩ => by
        obtain ⟨p, e1, e2⟩ := datas_mem hps b hb
        obtain ⟨as, r1⟩ := Dp.reads J1 p v u (a2.dp p e1) a1
        exact ⟨as, by unfold encD; rw [e1]; exact r1⟩
      have erd : ∀ {us' : List Value} {xs' : List D}, (∀ b ∈ xs', b ∈ xs) → PySem.W.EachIs (fun u d => ∃ v S', L2.RelV v u ∧ Rep (gam X) κ H 0 v d [] S' ∧ ∀ a ∈ S', a ∈ S) us' xs' →
          PySem.W.EachIs (fun u d => ∃ as, Reads (PySem.W.sortingHeap (h'.push (seqObj "list" us.toArray 0)) h'.objs.size us) u (encD d) as) us' xs' := by
        intro us' xs' hsub e
        induction e with
        | nil => exact .nil
        | cons a t ih =>
          obtain ⟨as, ra⟩ := rd _ _ (hsub _ List.mem_cons_self) (by obtain ⟨v, S1, a1, a2, a3⟩ := a; exact ⟨v, S1, a1, a2, a3⟩)
          exact .cons ⟨as, PyProof.Rows.Reads.keeps (fun b o e => old b o e) ra⟩ (ih fun b hb => hsub b (List.mem_cons_of_mem _ hb))
      have hE' := hE.mono (R' := fun u d => ∃ v S', L2.RelV v u ∧ Rep (gam X) κ H 0 v d [] S' ∧ ∀ a ∈ S', a ∈ S) fun u d ⟨v, S1, a1, a2, a3⟩ => ⟨v, S1, a1, a2, fun x z => hS x (a3 x z)⟩
      have er := erd (fun _ h => h) hE'
      have hal : PySem.W.AllAlike (xs.map encD) := by
        rw [← hmap]
        intro a ha b hb
        exact List.all_eq_true.mp (List.all_eq_true.mp h1 a ha) b hb
      have hsrt : PySem.W.Sortable (xs.map encD) := by
        rw [← hmap]
        rcases Bool.or_eq_true_iff.mp hT with z | z
        · exact .inl (tups_ok ps z)
        · right
          intro d hd
          have q := List.all_eq_true.mp z d hd
          refine ⟨?_, ?_⟩
          · rintro rfl; cases q
          · rintro ys rfl; cases q
      have hdep : ∀ d, d ∈ xs.map encD → X.A.in1.in1.units + d.depth < cLine := by
        rw [← hmap]
        intro d hd
        have q := of_decide_eq_true (List.all_eq_true.mp h2 d hd)
        show X.A.units + 1 + 1 + d.depth < cLine
        omega
      have hS2 := PySem.W.SortsAt.data (prog := X.prog) (w := X.w) (A := X.A.in1.in1) (s := { s with heap := PySem.W.sortingHeap (h'.push (seqObj "list" us.toArray 0)) h'.objs.size us, toks := tk }) (PySem.W.each_map (R := fun v d => ∃ as, Reads (PySem.W.sortingHeap (h'.push (seqObj "list" us.toArray 0)) h'.objs.size us) v d as) encD er) hal hsrt hdep
      refine wpAny_bind (wpAny_holding (wpAny_call_entry PyProof.Rows.slot_list_sort ⟨_, atL, rfl⟩ PyProof.Rows.entry_list_sort
        (PySem.W.list_sort_vals (s := { s with heap := h'.push (seqObj "list" us.toArray 0), toks := tk }) atL hS2 (by rw [hl]; exact hz) ⟨_, rfl, ?_⟩) (PyProof.Rows.args_list_sort _)))
      have out := PySem.W.sortVals_data (h' := PySem.W.sortingHeap (h'.push (seqObj "list" us.toArray 0)) h'.objs.size us) false hE' er hal
      have hys : xs.mergeSort (PySem.W.dataLe false encD) = ys := by
        rw [← hs]
        refine (mergeSort_congr xs fun a ha b hb => ?_).symm
        obtain ⟨x, e1, _⟩ := datas_mem hps a ha
        obtain ⟨y, e2, _⟩ := datas_mem hps b hb
        exact dle_eq a b x y e1 e2
      rw [hys] at out
      obtain ⟨ws, S2, w1, w2, w3⟩ := vals_each out
      obtain ⟨e', he'⟩ := PyProof.Rows.sortedHeap_at (vs := us) (out := (PySem.W.sortVals (PySem.W.dataKind (PySem.W.sortingHeap (h'.push (seqObj "list" us.toArray 0)) h'.objs.size us) (xs.map encD)) false us us).toArray) atL
      have hlen : ws.length ≤ sizeLine := by rw [w2.len, ← hs, List.length_mergeSort]; exact hz
      refine wpAny_pure ⟨_, rfl, .ref h'.objs.size, L2.upd H h'.objs.size (.lst ws), J1.laid (t' := tk) (fun b u e => ?_) (Nat.le_refl _)
        (show ObjOk X.prog X.w _ _ _ (.lst ws) from ⟨hlen, _, e', w1, he'⟩), rfl, q _ ws S2 (J1.hok.fresh (Nat.le_refl _)) w2 w3⟩
      have lb := Heap.lt_size e
      exact (PyProof.Rows.sortedHeap_old (Nat.ne_of_lt lb) (by rw [size_push']; exact Nat.lt_succ_of_lt lb)).trans (Heap.get?_push_of_some _ e)
    · cases hso
  · cases hs
end
end VL
/-! V8: built-in functions, methods, isinstance. -/
namespace VL
open PySem L2 PyProof.Rows
def valB : Bui → Value
  | .len => .builtin "len" | .sorted => .builtin "sorted" | .all => .builtin "all" | .any => .builtin "any" | .list => .type "list" | .tuple => .type "tuple" | .dict0 => .type "dict" | .dict => .type "dict"
  | .sum => .builtin "sum" | .max => .builtin "max" | .min => .builtin "min" | .max2 => .builtin "max" | .min2 => .builtin "min" | .int => .type "int" | .repr => .builtin "repr"
def lvlB : Bui → Nat
  | .list => 1 | .sorted => 1 | .dict => 1 | _ => 0
section
variable {X : Cx}
theorem pair_keys {H : Hp} {κ : List Addr} : ∀ {vs : List V} {ds : List D} {O S : List Addr}, RepL (gam X) κ H 0 vs ds O S → ∀ {kvs : List (NestedKey × D)}, allSome (ds.map pairOf) = some kvs → kvs.all (fun p => keyFits false p.1) = true →
    ∃ (ps : List Addr) (ks : List (Key × V)) (S' : List Addr), vs = ps.map V.ref ∧ Paired (fun p kv => SqT X.K H p [kV kv.1, kv.2]) ps ks ∧ KE ks kvs ∧ RepL (gam X) κ H 0 (ks.map (·.2)) (kvs.map (·.2)) [] S' ∧ ∀ a ∈ S', a ∈ S
  | _, _, _, _, .nil, kvs, h, _ => by cases h; exact ⟨[], [], [], rfl, .nil, rfl, .nil, by simp⟩
  | _, _, _, _, .cons (d := d) r t, kvs, h, hf => by
    rw [List.map_cons, allSome] at h
    obtain ⟨p, e1, h⟩ := Option.bind_eq_some_iff.mp h
    obtain ⟨kvs', e2, rfl⟩ := Option.map_eq_some_iff.mp h
    obtain ⟨f1, f2⟩ := Bool.and_eq_true_iff.mp (by simpa using hf : (keyFits false p.1 && kvs'.all fun p => keyFits false p.1) = true)
    obtain ⟨ps, ks, S', a1, a2, a3, a4, a5⟩ := pair_keys t e2 f2
    unfold pairOf at e1
    split at e1
    · next k v =>
      obtain ⟨kk, ek, rfl⟩ := Option.map_eq_some_iff.mp e1
      cases r with
      | tup ha q =>
        obtain ⟨x, y, S1, S2, rfl, q1, q2, q3⟩ := q.two
        obtain ⟨lk, l1, rfl⟩ := leaf_key f1 (q1.keyR kk ek)
        refine ⟨_ :: ps, (lk, y) :: ks, S2 ++ S', by rw [a1]; rfl, .cons ha a2, ?_, .cons (O1 := []) q2 a4, fun a z => ?_⟩
        · simp only [KE, List.map_cons]
          rw [l1]
          exact congrArg _ a3
        · rcases List.mem_append.mp z with z | z
          · exact List.mem_append_left _ (q3 a (.inr z))
          · exact List.mem_append_right _ (a5 a z)
    · cases e1
/-! ### a key is put -/
theorem any_key {α : Type} {l : List (NestedKey × α)} {k : NestedKey} : (l.any fun p => decide (p.1 = k)) = true ↔ k ∈ l.map (·.1) := by
  simp only [List.any_eq_true, decide_eq_true_eq, List.mem_map]
theorem put_new {α : Type} {l : List (NestedKey × α)} {k : NestedKey} {v : α} (h : k ∉ l.map (·.1)) : put l k v = l ++ [(k, v)] := by
  unfold put
  rw [if_neg fun z => h (any_key.mp z)]
theorem put_keys {α : Type} (l : List (NestedKey × α)) (k : NestedKey) (v : α) : (put l k v).map (·.1) = if k ∈ l.map (·.1) then l.map (·.1) else l.map (·.1) ++ [k] := by
  unfold put
  by_cases h : k ∈ l.map (·.1)
  · rw [if_pos (any_key.mpr h), if_pos h, List.map_map]
    refine List.map_congr_left fun p _ => ?_
    show (if p.1 = k then (p.1, v) else p).1 = p.1
    split <;> rfl
  · rw [if_neg fun z => h (any_key.mp z), if_neg h, List.map_append]; rfl
theorem put_nd {α : Type} {l : List (NestedKey × α)} (k : NestedKey) (v : α) (h : (l.map (·.1)).Nodup) : ((put l k v).map (·.1)).Nodup := by
  rw [put_keys]
  split
  · exact h
  · next hn => exact List.nodup_append.mpr ⟨h, by simp, fun a ha b hb e => by simp at hb; subst hb; subst e; exact hn ha⟩
theorem puts_nd {α : Type} : ∀ (more l : List (NestedKey × α)), (l.map (·.1)).Nodup → ((puts l more).map (·.1)).Nodup
  | [], l, h => h
  | p :: more, l, h => puts_nd more (put l p.1 p.2) (put_nd p.1 p.2 h)
theorem put_len {α : Type} (l : List (NestedKey × α)) (k : NestedKey) (v : α) : (put l k v).length ≤ l.length + 1 := by
  unfold put; split <;> simp
section
variable {Γ : Gam} {κ : List Addr} {H : Hp} {n : Nat}
theorem KE.len {kvs : List (Key × V)} {ds : List (NestedKey × D)} (h : KE kvs ds) : kvs.length = ds.length := by
  have q := congrArg List.length h
  simpa using q.symm
theorem KE.has : ∀ {kvs : List (Key × V)} {ds : List (NestedKey × D)}, KE kvs ds → ∀ {nk : NestedKey} {k : Key}, lkey nk = some k → ((kvs.any fun p => decide (p.1 = k)) = true ↔ nk ∈ ds.map (·.1))
  | [], [], _, _, _, _ => by simp
  | [], _ :: _, q, _, _, _ => by simp [KE] at q
  | _ :: _, [], q, _, _, _ => by simp [KE] at q
  | (k1, v1) :: kvs, (n1, d1) :: ds, q, nk, k, h => by
    simp only [KE, List.map_cons, List.cons.injEq] at q
    have ih := KE.has (kvs := kvs) (ds := ds) q.2 h
    simp only [List.any_cons, Bool.or_eq_true, decide_eq_true_eq, List.map_cons, List.mem_cons]
    rw [ih]
    constructor
    · rintro (z | z)
      · exact .inl (lkey_inj h (q.1.trans (by rw [z])))
      · exact .inr z
    · rintro (z | z)
      · subst z; rw [h] at q; exact .inl (Option.some.inj q.1).symm
      · exact .inr z
/-- the values with the one at k exchanged -/
theorem set_leaf {nk : NestedKey} {k : Key} {v : V} {d : D} {Ov Sv : List Addr} (hk : lkey nk = some k) (hv : Rep Γ κ H n v d Ov Sv) :
    ∀ {kvs : List (Key × V)} {ds : List (NestedKey × D)}, KE kvs ds → (ds.map (·.1)).Nodup → ∀ {O S : List Addr}, RepL Γ κ H n (kvs.map (·.2)) (ds.map (·.2)) O S →
    KE (kvs.map fun p => if p.1 = k then (p.1, v) else p) (ds.map fun p => if p.1 = nk then (p.1, d) else p) ∧
    ∃ O' S', RepL Γ κ H n ((kvs.map fun p => if p.1 = k then (p.1, v) else p).map (·.2)) ((ds.map fun p => if p.1 = nk then (p.1, d) else p).map (·.2)) O' S' ∧ ((Ov ++ O).Nodup → O'.Nodup) ∧ (∀ a ∈ O', a ∈ Ov ++ O) ∧ (nk ∉ ds.map (·.1) → ∀ a ∈ O', a ∈ O) ∧ ∀ a ∈ S', a ∈ Sv ++ S
  | [], [], _, _, _, _, .nil => ⟨rfl, [], [], .nil, fun _ => List.nodup_nil, by simp, by simp, by simp⟩
  | [], _ :: _, q, _, _, _, _ => by simp [KE] at q
  | _ :: _, [], q, _, _, _, _ => by simp [KE] at q
  | (k1, v1) :: kvs, (n1, d1) :: ds, q, nd, _, _, r => by
    simp only [KE, List.map_cons, List.cons.injEq] at q
    rw [List.map_cons] at nd
    obtain ⟨nd1, nd2⟩ := List.nodup_cons.mp nd
    cases r with
    | cons h t =>
      rename_i O1 O2 S1 S2
      obtain ⟨a1, O', S', a2, a3, a4, a5, a6⟩ := set_leaf hk hv (kvs := kvs) (ds := ds) q.2 nd2 t
      by_cases e : n1 = nk
      · subst e
        have e2 : k1 = k := by rw [hk] at q; exact (Option.some.inj q.1).symm
        subst e2
        refine ⟨?_, Ov ++ O', Sv ++ S', ?_, fun hn => ?_, fun a z => ?_, fun z => absurd (by simp) z, fun a z => ?_⟩
        · simp only [KE, List.map_cons, if_true] at a1 ⊢
          rw [a1, hk]
        · simp only [List.map_cons, if_true]
          exact .cons hv a2
        · have hn2 : (Ov ++ O2).Nodup := by
            obtain ⟨x1, x2, x3⟩ := List.nodup_append.mp hn
            obtain ⟨y1, y2, y3⟩ := List.nodup_append.mp x2
            exact List.nodup_append.mpr ⟨x1, y2, fun a ha b hb => x3 a ha b (List.mem_append_right _ hb)⟩
          refine List.nodup_append.mpr ⟨(List.nodup_append.mp hn).1, a3 hn2, fun a ha b hb e => ?_⟩
          exact (List.nodup_append.mp hn2).2.2 a ha b (a5 nd1 b hb) e
        · rcases List.mem_append.mp z with z | z
          · exact List.mem_append_left _ z
          · exact List.mem_append_right _ (List.mem_append_right _ (a5 nd1 a z))
        · rcases List.mem_append.mp z with z | z
          · exact List.mem_append_left _ z
          · rcases List.mem_append.mp (a6 a z) with z | z
            · exact List.mem_append_left _ z
            · exact List.mem_append_right _ (List.mem_append_right _ z)
      · have e2 : ¬ k1 = k := fun z => e (lkey_inj (q.1.trans (by rw [z])) hk)
        refine ⟨?_, O1 ++ O', S1 ++ S', ?_, fun hn => ?_, fun a z => ?_, fun z a y => ?_, fun a z => ?_⟩
        · simp only [KE, List.map_cons, if_neg e, if_neg e2] at a1 ⊢
          rw [a1, q.1]
        · simp only [List.map_cons, if_neg e, if_neg e2]
          exact .cons h a2
        · obtain ⟨x1, x2, x3⟩ := List.nodup_append.mp hn
          obtain ⟨y1, y2, y3⟩ := List.nodup_append.mp x2
          have hn2 : (Ov ++ O2).Nodup := List.nodup_append.mpr ⟨x1, y2, fun a ha b hb => x3 a ha b (List.mem_append_right _ hb)⟩
          refine List.nodup_append.mpr ⟨y1, a3 hn2, fun a ha b hb e => ?_⟩
          rcases List.mem_append.mp (a4 b hb) with z | z
          · exact x3 b z a (List.mem_append_left _ ha) e.symm
          · exact y3 a ha b z e
        · rcases List.mem_append.mp z with z | z
          · exact List.mem_append_right _ (List.mem_append_left _ z)
          · rcases List.mem_append.mp (a4 a z) with z | z
            · exact List.mem_append_left _ z
            · exact List.mem_append_right _ (List.mem_append_right _ z)
        · rcases List.mem_append.mp y with y | y
          · exact List.mem_append_left _ y
          · exact List.mem_append_right _ (a5 (fun w => z (List.mem_cons_of_mem _ w)) a y)
        · rcases List.mem_append.mp z with z | z
          · exact List.mem_append_right _ (List.mem_append_left _ z)
          · rcases List.mem_append.mp (a6 a z) with z | z
            · exact List.mem_append_left _ z
            · exact List.mem_append_right _ (List.mem_append_right _ z)
theorem put_leaf {nk : NestedKey} {k : Key} {v : V} {d : D} {Ov Sv : List Addr} (hk : lkey nk = some k) (hv : Rep Γ κ H n v d Ov Sv)
    {kvs : List (Key × V)} {ds : List (NestedKey × D)} (kk : KK kvs ds) {O S : List Addr} (r : RepL Γ κ H n (kvs.map (·.2)) (ds.map (·.2)) O S) :
    KK (putK kvs k v) (put ds nk d) ∧ ∃ O' S', RepL Γ κ H n ((putK kvs k v).map (·.2)) ((put ds nk d).map (·.2)) O' S' ∧ ((Ov ++ O).Nodup → O'.Nodup) ∧ (∀ a ∈ O', a ∈ Ov ++ O) ∧ ∀ a ∈ S', a ∈ Sv ++ S := by
  by_cases h : nk ∈ ds.map (·.1)
  · obtain ⟨a1, O', S', a2, a3, a4, _, a6⟩ := set_leaf hk hv kk.1 kk.2 r
    have e1 : putK kvs k v = kvs.map fun p => if p.1 = k then (p.1, v) else p := by
      unfold putK; rw [if_pos ((kk.1.has hk).mpr h)]
    have e2 : put ds nk d = ds.map fun p => if p.1 = nk then (p.1, d) else p := by
      unfold put; rw [if_pos (any_key.mpr h)]
    have hnd := put_nd nk d kk.2
    rw [e2] at hnd
    rw [e1, e2]
    exact ⟨⟨a1, hnd⟩, O', S', a2, a3, a4, a6⟩
  · have e1 : putK kvs k v = kvs ++ [(k, v)] := by
      unfold putK; rw [if_neg fun z => h ((kk.1.has hk).mp z)]
    have hnd := put_nd nk d kk.2
    rw [put_new h] at hnd ⊢
    rw [e1]
    refine ⟨⟨?_, hnd⟩, O ++ Ov, S ++ Sv, ?_, fun hn => ?_, fun a z => ?_, fun a z => ?_⟩
    · unfold KE
      rw [List.map_append, List.map_append, show ds.map (fun p => lkey p.1) = _ from kk.1]
      simp [hk]
    · rw [List.map_append, List.map_append]
      have := RepL.cons hv (RepL.nil (Γ := Γ) (κ := κ) (H := H) (n := n))
      rw [List.append_nil, List.append_nil] at this
      exact r.append this
    · obtain ⟨x1, x2, x3⟩ := List.nodup_append.mp hn
      exact List.nodup_append.mpr ⟨x2, x1, fun a ha b hb e => x3 b hb a ha e.symm⟩
    · exact List.mem_append.mpr (List.mem_append.mp z).symm
    · exact List.mem_append.mpr (List.mem_append.mp z).symm
theorem merge_leaf : ∀ {ks : List (Key × V)} {more : List (NestedKey × D)}, KE ks more → ∀ {O2 S2 : List Addr}, RepL Γ κ H 0 (ks.map (·.2)) (more.map (·.2)) O2 S2 →
    ∀ {kvs : List (Key × V)} {ds : List (NestedKey × D)}, KK kvs ds → ∀ {O S : List Addr}, RepL Γ κ H 0 (kvs.map (·.2)) (ds.map (·.2)) O S →
    KK (mergeK kvs ks) (puts ds more) ∧ ∃ S', RepL Γ κ H 0 ((mergeK kvs ks).map (·.2)) ((puts ds more).map (·.2)) [] S' ∧ ∀ a ∈ S', a ∈ S ∨ a ∈ S2
  | [], [], _, _, _, _, kvs, ds, hk, O, S, r => ⟨hk, S, by have := r.own0; subst this; exact r, fun a z => .inl z⟩
  | [], _ :: _, q, _, _, _, _, _, _, _, _, _ => by simp [KE] at q
  | _ :: _, [], q, _, _, _, _, _, _, _, _, _ => by simp [KE] at q
  | (k1, v1) :: ks, (n1, d1) :: more, q, _, _, r2, kvs, ds, hk, O, S, r => by
    simp only [KE, List.map_cons, List.cons.injEq] at q
    cases r2 with
    | cons h t =>
      rename_i O1 O2 S1 S2
      have e1 := h.own0; have e2 := t.own0; have e3 := r.own0; subst e1; subst e2; subst e3
      obtain ⟨hk', O', S', r', nd, ho, hs⟩ := put_leaf q.1 h hk r
      have e4 := r'.own0; subst e4
      obtain ⟨hk2, S3, r3, hs3⟩ := merge_leaf q.2 t hk' r'
      refine ⟨hk2, S3, r3, fun a z => ?_⟩
      rcases hs3 a z with z | z
      · rcases List.mem_append.mp (hs a z) with z | z
        · exact .inr (List.mem_append_left _ z)
        · exact .inl z
      · exact .inr (List.mem_append_right _ z)
end
theorem pydk_vals : ∀ (kvs : List (NestedKey × D)) (ps : List (PyData × PyData)), D.pydk kvs = some ps → D.pyds (kvs.map (·.2)) = some (ps.map (·.2))
  | [], ps, h => by rw [D.pydk] at h; cases h; rfl
  | (k, d) :: r, ps, h => by
    rw [D.pydk] at h
    obtain ⟨x, e1, h⟩ := Option.bind_eq_some_iff.mp h
    obtain ⟨y, e2, h⟩ := Option.bind_eq_some_iff.mp h
    obtain ⟨t, e3, rfl⟩ := Option.map_eq_some_iff.mp h
    rw [List.map_cons, D.pyds, e2, Option.bind_some, pydk_vals r t e3]; rfl
/-! ### what repr reads -/
section
variable {X : Cx} {pins : List (Addr × Obj)} {σ : L2.St} {H : Hp} {s : Shared} {κ : List Addr}
theorem tracked_ne (I : Inv X pins σ H s) {z : Addr} (hz : (X.K.lookup z).isSome = true) {a : Addr} {o : HO} (h : H a = some o) : z ≠ a := fun e => by
  obtain ⟨u, hu⟩ := Option.isSome_iff_exists.mp hz
  have := (I.bs z u (I.ok.mod.kin _ _ hu)).2
  rw [e, h] at this; cases this
theorem rd_tracked {H : Hp} {a : Addr} {u : HO} (h : Rd H a u) : ∃ o, H a = some o := by
  rcases h with h | ⟨o, h⟩
  · exact ⟨_, h⟩
  · exact ⟨_, h⟩
theorem lst_reads (I : Inv X pins σ H s) (hz : (X.K.lookup sysModules).isSome = true) {a : Addr} {vs : List V} {ps : List PyData} (h : H a = some (.lst vs)) (ih : ∀ us, Vals vs us → ∃ as, ReadsAll s.heap us ps as ∧ sysModules ∉ as) :
    ∃ as, Reads s.heap (.ref a) (.list ps) as ∧ sysModules ∉ as := by
  obtain ⟨its, rv, ⟨o, n, ho, hc, _, hdt⟩, _⟩ := I.list (SqL.of h)
  obtain ⟨as, r, na⟩ := ih _ rv
  exact ⟨a :: as, .list ho hc hdt (by simpa using r), fun z => (List.mem_cons.mp z).elim (tracked_ne I hz h) na⟩
theorem keys_reads {hp : Heap} : ∀ (l : List (NestedKey × D)) (kvs : List (Key × V)) (us : List Value) (ps : List (PyData × PyData)), Vals (kvs.map fun p => kV p.1) us → l.map (fun p => lkey p.1) = kvs.map (fun p => some p.1) → D.pydk l = some ps →
    ReadsAll hp us (ps.map (·.1)) []
  | [], kvs, us, ps, r, hk, h => by
    rw [D.pydk] at h; cases h
    cases kvs with
    | nil => cases r; exact .nil
    | cons _ _ => cases hk
  | (k, d) :: l, kvs, us, ps, r, hk, h => by
    rw [D.pydk] at h
    obtain ⟨x, e1, h⟩ := Option.bind_eq_some_iff.mp h
    obtain ⟨y, e2, h⟩ := Option.bind_eq_some_iff.mp h
    obtain ⟨t, e3, rfl⟩ := Option.map_eq_some_iff.mp h
    cases kvs with
    | nil => cases hk
    | cons q kvs =>
      obtain ⟨hk1, hk2⟩ := List.cons.inj hk
      obtain ⟨q1, q2⟩ := q
      cases r with
      | @cons _ bv _ us2 r1 r2 =>
        have ih := keys_reads (hp := hp) l kvs _ t r2 hk2 e3
        have hd : Reads hp bv x [] := by
          cases k with
          | num i => cases e1; cases hk1; obtain ⟨t, rfl⟩ := r1; exact .int _ _
          | text z => cases e1; cases hk1; obtain ⟨t, rfl⟩ := r1; exact .str _ _
          | none => cases e1
          | tup _ => cases e1
        exact .cons (as := []) hd ih
theorem dic_reads (I : Inv X pins σ H s) {a : Addr} {kvs : List (Key × V)} {ds : List (NestedKey × D)} {ps : List (PyData × PyData)} (hne : sysModules ≠ a) (hr : Rd H a (.dK kvs)) (kk : KK kvs ds) (e : D.pydk ds = some ps)
    (ih : ∀ us, Vals (kvs.map (·.2)) us → ∃ as, ReadsAll s.heap us (ps.map (·.2)) as ∧ sysModules ∉ as) : ∃ as, Reads s.heap (.ref a) (.dict ps) as ∧ sysModules ∉ as := by
  obtain ⟨z, lo, vs, rel, o, es, ep, h1, h2, h3, h4, h5, h6⟩ := dk_rd I.hok hr
  obtain ⟨as, r, na⟩ := ih _ (pairs_vals h5 rel)
  exact ⟨a :: [] ++ as, .dict h1 h2.1 h3 (keys_reads ds kvs _ ps (pairs_keys h5 rel) kk.1 e) r, by
    intro q
    rcases List.mem_cons.mp q with q | q
    · exact hne q
    · exact na (by simpa using q)⟩
mutual
theorem Rep.reads (I : Inv X pins σ H s) (hz : (X.K.lookup sysModules).isSome = true) : ∀ {n : Nat} {v : V} {d : D} {O S : List Addr}, Rep (gam X) κ H n v d O S → ∀ p, d.pyd = some p → ∀ u, RelV v u → ∃ as, Reads s.heap u p as ∧ sysModules ∉ as
  | _, _, _, _, _, .non, p, h, u, r => by cases h; cases r; exact ⟨[], .none, by simp⟩
  | _, _, _, _, _, .bl, p, h, u, r => by cases h; cases r; exact ⟨[], .bool _, by simp⟩
  | _, _, _, _, _, .int, p, h, u, r => by cases h; obtain ⟨t, rfl⟩ := r; exact ⟨[], .int _ _, by simp⟩
  | _, _, _, _, _, .str, p, h, u, r => by cases h; obtain ⟨t, rfl⟩ := r; exact ⟨[], .str _ _, by simp⟩
  | _, _, _, _, _, .typ, p, h, _, _ => by cases h
  | _, _, _, _, _, .cel _, p, h, _, _ => by cases h
  | _, _, _, _, _, .glo _, p, h, _, _ => by cases h
  | _, _, _, _, _, .scr _, p, h, _, _ => by cases h
  | _, _, _, _, _, .scr1 _ _, p, h, _, _ => by cases h
  | _, _, _, _, _, .exn0 _ _, p, h, _, _ => by cases h
  | _, _, _, _, _, .exn1 _ _ _ _, p, h, _, _ => by cases h
  | _, _, _, _, _, .raw, p, h, _, _ => by cases h
  | _, _, _, _, _, .ins _ _ _ _, p, h, _, _ => by cases h
  | _, _, _, _, _, .tup a q, p, h, u, r => by
    rw [D.pyd] at h
    obtain ⟨ps, e, rfl⟩ := Option.map_eq_some_iff.mp h
    cases r
    obtain ⟨its, rv, ⟨o, e1, e2, m, e3⟩, _⟩ := I.tuple a
    obtain ⟨as, r, na⟩ := RepL.reads I hz q ps e _ rv
    exact ⟨as, .tuple e1 e2 e3 (by simpa using r), na⟩
  | _, _, _, _, _, .lst0 a _ q, p, h, u, r => by
    rw [D.pyd] at h
    obtain ⟨ps, e, rfl⟩ := Option.map_eq_some_iff.mp h
    cases r
    exact lst_reads I hz a (fun us rv => RepL.reads I hz q ps e us rv)
  | _, _, _, _, _, .lst a _ q, p, h, u, r => by
    rw [D.pyd] at h
    obtain ⟨ps, e, rfl⟩ := Option.map_eq_some_iff.mp h
    cases r
    exact lst_reads I hz a (fun us rv => RepL.reads I hz q ps e us rv)
  | _, _, _, _, _, .dic0 a k q, p, h, u, r => by
    rw [D.pyd] at h
    simp only [Bool.false_eq_true, if_false] at h
    obtain ⟨ps, e, rfl⟩ := Option.map_eq_some_iff.mp h
    cases r
    exact dic_reads I (tracked_ne I hz a) (.inl a) k e (fun us rv => RepL.reads I hz q (ps.map (·.2)) (pydk_vals _ _ e) us rv)
  | _, _, _, _, _, .dic a k q, p, h, u, r => by
    rw [D.pyd] at h
    simp only [Bool.false_eq_true, if_false] at h
    obtain ⟨ps, e, rfl⟩ := Option.map_eq_some_iff.mp h
    cases r
    exact dic_reads I (tracked_ne I hz a) (.inl a) k e (fun us rv => RepL.reads I hz q (ps.map (·.2)) (pydk_vals _ _ e) us rv)
  | _, _, _, _, _, .nic0 _ _ _, p, h, _, _ => by rw [D.pyd] at h; simp at h
  | _, _, _, _, _, .nic _ _ _, p, h, _, _ => by rw [D.pyd] at h; simp at h
theorem RepL.reads (I : Inv X pins σ H s) (hz : (X.K.lookup sysModules).isSome = true) : ∀ {n : Nat} {v : List V} {d : List D} {O S : List Addr}, RepL (gam X) κ H n v d O S → ∀ p, D.pyds d = some p → ∀ u, Vals v u → ∃ as, ReadsAll s.heap u p as ∧ sysModules ∉ as
  | _, _, _, _, _, .nil, p, h, u, r => by cases h; cases r; exact ⟨[], .nil, by simp⟩
  | _, _, _, _, _, .cons a q, p, h, u, r => by
    rw [D.pyds] at h
    obtain ⟨x, e1, h⟩ := Option.bind_eq_some_iff.mp h
    obtain ⟨xs, e2, rfl⟩ := Option.map_eq_some_iff.mp h
    cases r with
    | cons r1 r2 =>
      obtain ⟨as, h1, n1⟩ := Rep.reads I hz a x e1 _ r1
      obtain ⟨bs, h2, n2⟩ := RepL.reads I hz q xs e2 _ r2
      exact ⟨as ++ bs, .cons h1 h2, fun z => (List.mem_append.mp z).elim n1 n2⟩
end
theorem call_reprD (hg : X.A.guards = some []) (hz : (X.K.lookup sysModules).isSome = true) (hu : X.A.units + 70 < cLine) {n : Nat} {v : V} {d : D} {x : Str} {O S : List Addr} {u : Value} {Q : VK} (I : Inv X pins σ H s) (r : Rep (gam X) κ H n v d O S) (e : reprD d = some x) (ru : RelV v u) (h : Q (.str x) H) :
    wpAny (model X.prog X.w) X.A (call (.builtin "repr") [u]) (EP X pins σ Q) X.xe s := by
  unfold reprD at e
  obtain ⟨p, e1, e2⟩ := Option.bind_eq_some_iff.mp e
  split at e2
  case isFalse => cases e2
  cases e2
  rename_i hok
  unfold reprOk at hok
  obtain ⟨o1, o2⟩ := Bool.and_eq_true_iff.mp hok
  obtain ⟨o2, o3⟩ := Bool.and_eq_true_iff.mp o2
  have o2 := of_decide_eq_true o2
  have o3 := of_decide_eq_true o3
  have hsl := sizeLine_eq
  obtain ⟨as, rd, na⟩ := r.reads I hz p e1 u ru
  obtain ⟨o, rfl⟩ | hleaf : (∃ a, u = .ref a) ∨ (∀ a, u ≠ .ref a) := by
    cases u <;> first | exact .inl ⟨_, rfl⟩ | exact .inr (fun _ z => nomatch z)
  · exact repr_of_reads' rd o1 (fun _ => na) hg (by omega) (fun _ _ z => z) (fun h' u tk kp => ⟨.str _, H, I.kept (t' := tk) kp, ⟨_, rfl⟩, h⟩) (by omega)
  · cases rd with
    | none => exact PySem.P.repr_of_none ⟨.str _, H, I.tok _, ⟨_, rfl⟩, h⟩
    | bool b => exact PySem.P.repr_of_bool ⟨.str _, H, I.tok _, ⟨_, rfl⟩, (by cases b <;> exact h)⟩
    | int i t => exact PySem.P.repr_of_int (by
        rw [PyData.showable] at o1
        exact of_decide_eq_true o1) ⟨.str _, H, I.tok _, ⟨_, rfl⟩, h⟩
    | str y t => exact PySem.P.repr_of_str ⟨.str _, H, I.tok _, ⟨_, rfl⟩, h⟩ (by rw [PyData.shown] at o3; omega)
    | list => exact absurd rfl (hleaf _)
    | tuple => exact absurd rfl (hleaf _)
    | dict => exact absurd rfl (hleaf _)
end
theorem buiR (b : Bui) (hg : X.A.guards = some []) (hz : (X.K.lookup sysModules).isSome = true) (hc : X.calm = true) (hu : X.A.units + 70 < cLine) : CallR X (valB b) (rBui (gam X) b (lvlB b)) := by
  intro pins s σ H xs us Q I rv ⟨κ, g, ds, d, S, c, r, e, k⟩
  have cl := c.cl
  unfold bui at e
  split at e
  case h_1 => -- len list
    split at e
    · next hz =>
      cases e
      obtain ⟨v, rfl, rr⟩ := r.one
      cases rr with
      | lst0 ha hn q => exact call_len_seq pins s σ H _ us Q I rv ⟨_, _, rfl, .inl (.of ha), by rw [q.len]; exact k _ _ _ _ (.same .int (by simp))⟩
    · cases e
  case h_2 => -- len scr
    split at e
    · next hz =>
      cases e
      obtain ⟨v, rfl, rr⟩ := r.one
      cases rr with
      | scr h => exact call_len_seq pins s σ H _ us Q I rv ⟨_, _, rfl, .inl h.sq, by rw [List.length_map]; exact k _ _ _ _ (.same .int (by simp))⟩
      | scr1 h n => exact call_len_seq pins s σ H _ us Q I rv ⟨_, _, rfl, .inl (.of h), by rw [List.length_map]; exact k _ _ _ _ (.same .int (by simp))⟩
    · cases e
  case h_3 =>
    split at e
    · next hz =>
      cases e
      obtain ⟨v, rfl, rr⟩ := r.one
      cases rr with
      | tup ha q => exact call_len_seq pins s σ H _ us Q I rv ⟨_, _, rfl, .inr ha, by rw [q.len]; exact k _ _ _ _ (.same .int (by simp))⟩
    · cases e
  case h_4 =>
    split at e
    · next hz =>
      cases e
      obtain ⟨v, rfl, rr⟩ := r.one
      cases rr
      exact call_len_str pins s σ H _ us Q I rv ⟨_, rfl, sz_line hz, k _ _ _ _ (.same .int (by simp))⟩
    · cases e
  case h_5 => -- len dict
    split at e
    · next hz =>
      cases e
      obtain ⟨v, rfl, rr⟩ := r.one
      have ⟨a, ea⟩ : ∃ a, v = .ref a := by cases rr <;> exact ⟨_, rfl⟩
      subst ea
      obtain ⟨lo, hl, es, ep, vs, ws, S', raw, hes, _⟩ := dic_raw I rr
      obtain ⟨u, rfl, rx⟩ := vals1 rv
      cases (show u = Value.ref _ from rx)
      have hn := line63
      refine PyProof.Rows.call_len_slot (n := (es.size : Int)) raw.typeIs PySem.F.slot_dict_len (fun Q' hq => PySem.call_len_raw lo raw hq) (by omega) (by rw [hes]; omega) ⟨.int (es.size : Int), H, I.tok _, ⟨_, rfl⟩, ?_⟩
      rw [hes]
      exact k _ _ _ _ (.same .int (by simp))
    · cases e
  case h_6 d0 => -- sorted
    obtain ⟨v, rfl, rr⟩ := r.one
    have key : ∃ xs ys, keysOrItems d0 = some xs ∧ sortD xs = some ys ∧ d = .lst ys := by
      split at e
      · obtain ⟨ys, h1, rfl⟩ := Option.map_eq_some_iff.mp e; exact ⟨_, ys, rfl, h1, rfl⟩
      · obtain ⟨ys, h1, rfl⟩ := Option.map_eq_some_iff.mp e; exact ⟨_, ys, rfl, h1, rfl⟩
      · obtain ⟨ys, h1, rfl⟩ := Option.map_eq_some_iff.mp e; exact ⟨_, ys, rfl, h1, rfl⟩
      · cases e
    obtain ⟨xs, ys, h1, h2, rfl⟩ := key
    exact sortedR hc hu pins s σ H _ us Q I rv ⟨κ, v, _, xs, ys, S, rfl, cl, rr, h1, h2, fun p ws S' hp q l => k _ _ _ _ (.lst cl q hp l)⟩
  case h_7 => -- all
    obtain ⟨bs, e1, rfl⟩ := Option.map_eq_some_iff.mp e
    obtain ⟨v, rfl, rr⟩ := r.one
    cases rr with
    | lst0 ha hn q =>
      have := q.toBools e1; subst this
      exact cr_all hc pins s σ H _ us Q I rv ⟨_, bs, rfl, .of ha, k _ _ _ _ (.same .bl (by simp))⟩
  case h_8 => -- any
    obtain ⟨bs, e1, rfl⟩ := Option.map_eq_some_iff.mp e
    obtain ⟨v, rfl, rr⟩ := r.one
    cases rr with
    | lst0 ha hn q =>
      have := q.toBools e1; subst this
      exact cr_any hc pins s σ H _ us Q I rv ⟨_, bs, rfl, .of ha, k _ _ _ _ (.same .bl (by simp))⟩
  case h_9 d0 => -- list
    obtain ⟨xs, e1, e2⟩ := Option.bind_eq_some_iff.mp e
    split at e2
    · next hz =>
      have hd := Option.some.inj e2
      subst hd
      obtain ⟨v, rfl, rr⟩ := r.one
      unfold itemsOf at e1
      split at e1
      · cases e1
        cases rr with
        | lst0 ha hn q => exact call_list_of pins s σ H _ us Q I rv ⟨_, _, rfl, .inl (.of ha), fun l hl => k _ _ _ _ (.lst cl q hl fun a z => List.mem_cons_of_mem _ z)⟩
      · cases e1
        cases rr with
        | tup ha q => exact call_list_of pins s σ H _ us Q I rv ⟨_, _, rfl, .inr ha, fun l hl => k _ _ _ _ (.lst cl q hl fun a z => z)⟩
      · cases e1
        have ⟨a, ea⟩ : ∃ a, v = .ref a := by cases rr <;> exact ⟨_, rfl⟩
        subst ea
        obtain ⟨lo, hl, es, ep, vs, ws, S', raw, hes, hv, hr, _⟩ := dic_raw I rr
        obtain ⟨u, rfl, rx⟩ := vals1 rv
        cases (show u = Value.ref _ from rx)
        refine PySem.W.kdl_call (PySem.KdlSrc.rawDict (es := es) (ep := ep) lo) (I.ok.hd hc) raw (by rw [hes]; exact hl) fun h' tk acc c' hk hL hacc => ?_
        have hva : Vals vs acc.toList := by rw [itemsOf_keys hacc]; exact hv
        exact ⟨.ref s.heap.objs.size, _, I.laid hk (Nat.le_refl _) (show ObjOk X.prog X.w _ h' _ (.lst vs) from ⟨by rw [hr.len, List.length_map]; exact hl, acc.toList, c', hva, by simpa using hL⟩), rfl,
          k _ _ _ _ (.lst cl hr (I.hok.fresh (Nat.le_refl _)) (by simp))⟩
      · cases e1
        cases rr
        obtain ⟨u, rfl, t, rfl⟩ := vals1 rv
        have hz' := sz_line hz
        rw [List.length_map, Array.length_toList] at hz'
        refine call_list_str (I.ok.hd hc) _ t (fun h' tk acc c' hk hL hacc => ?_) hz'
        have hva := itemsOf_signs hacc
        exact ⟨.ref s.heap.objs.size, _, I.laid hk (Nat.le_refl _) (show ObjOk X.prog X.w _ h' _ (.lst _) from ⟨by rw [List.length_map, Array.length_toList]; exact hz', acc.toList, c', hva, by simpa using hL⟩), rfl,
          k _ _ _ _ (.lst cl (strs_rep _) (I.hok.fresh (Nat.le_refl _)) (by simp))⟩
      · cases e1
    · cases e2
  case h_10 => -- tuple of a list
    cases e
    obtain ⟨v, rfl, rr⟩ := r.one
    cases rr with
    | lst0 ha hn q => exact call_tuple_of pins s σ H _ us Q I rv ⟨_, _, rfl, .inl ⟨.of ha, fun l hl => k _ _ _ _ (.tup cl q hl fun a z => List.mem_cons_of_mem _ z)⟩⟩
  case h_11 =>
    cases e
    obtain ⟨v, rfl, rr⟩ := r.one
    cases rr with
    | tup ha q =>
      have e0 := q.own0
      exact call_tuple_of pins s σ H _ us Q I rv ⟨_, _, rfl, .inr ⟨ha, k _ _ _ _ (.same (.tup ha q) fun a z => z)⟩⟩
  case h_12 => -- dict of pairs
    obtain ⟨kvs, e1, e2⟩ := Option.bind_eq_some_iff.mp e
    split at e2
    · next hf =>
      have hd := Option.some.inj e2
      subst hd
      obtain ⟨f1, f2⟩ := Bool.and_eq_true_iff.mp hf
      obtain ⟨v, rfl, rr⟩ := r.one
      cases rr with
      | lst0 ha hn q =>
        obtain ⟨ps, ks, S', a1, a2, a3, a4, a5⟩ := pair_keys q e1 f1
        subst a1
        obtain ⟨kk, S2, rr, l2⟩ := merge_leaf a3 a4 (kvs := []) (ds := []) ⟨rfl, List.nodup_nil⟩ (O := []) (S := []) .nil
        refine call_dictP hc pins s σ H _ us Q I rv ⟨_, ps, ks, rfl, .of ha, a2, fun p hp => k _ _ [p] _ ⟨ext_upd hp, .dic (n := 0) upd_same kk (rr.upd cl hp), by simp, fun a z => ?_, fun a z => ?_⟩⟩
        · rcases List.mem_singleton.mp z with rfl; exact hp
        · rcases l2 a z with z | z
          · cases z
          · exact List.mem_cons_of_mem _ (a5 a z)
    · cases e2
  case h_13 => -- sum
    obtain ⟨is, e1, rfl⟩ := Option.map_eq_some_iff.mp e
    obtain ⟨v, rfl, rr⟩ := r.one
    cases rr with
    | lst0 ha hn q =>
      have := q.toInts e1; subst this
      exact cr_sum hc pins s σ H _ us Q I rv ⟨_, is, rfl, .of ha, k _ _ _ _ (.same .int (by simp))⟩
  case h_14 =>
    cases e
    obtain ⟨v, w, S1, S2, rfl, r1, r2, _⟩ := r.two
    cases r1; cases r2
    exact call_max2 hc pins s σ H _ us Q I rv ⟨_, _, rfl, k _ _ _ _ (.same .int (by simp))⟩
  case h_15 =>
    cases e
    obtain ⟨v, w, S1, S2, rfl, r1, r2, _⟩ := r.two
    cases r1; cases r2
    exact call_min2 hc pins s σ H _ us Q I rv ⟨_, _, rfl, k _ _ _ _ (.same .int (by simp))⟩
  case h_16 =>
    cases e
    obtain ⟨v, rfl, rr⟩ := r.one
    cases rr
    exact call_int1 pins s σ H _ us Q I rv (.inl ⟨_, rfl, k _ _ _ _ (.same .int (by simp))⟩)
  case h_17 =>
    cases e
    obtain ⟨v, rfl, rr⟩ := r.one
    cases rr
    exact call_int1 pins s σ H _ us Q I rv (.inr ⟨_, rfl, k _ _ _ _ (.same .int (by simp))⟩)
  case h_18 =>
    split at e
    · next hz =>
      obtain ⟨n, e1, rfl⟩ := Option.map_eq_some_iff.mp e
      obtain ⟨v, rfl, rr⟩ := r.one
      cases rr
      exact call_int_str pins s σ H _ us Q I rv ⟨_, n, rfl, e1, hz, k _ _ _ _ (.same .int (by simp))⟩
    · cases e
  case h_19 => -- repr
    obtain ⟨x, e1, rfl⟩ := Option.map_eq_some_iff.mp e
    obtain ⟨v, rfl, rr⟩ := r.one
    obtain ⟨u, rfl, ru⟩ := vals1 rv
    exact call_reprD hg hz hu I rr e1 ru (k _ _ _ _ (.same .str (by simp)))
  case h_20 => cases e
/-! ### methods -/
def idM : Bme → String
  | .get1 => "dict.get" | .get2 => "dict.get" | .keys => "dict.keys" | .split => "str.split" | .splitw => "str.split" | .join => "str.join" | .count => "list.count" | .index => "list.index" | .bitlen => "int.bit_length"
def lvlM : Bme → Nat
  | .split => 1 | _ => 0
def rBme (Γ : Gam) (b : Bme) (n : Nat) : V → List V → Hp → VK → Prop := fun x vs H Q => ∃ κ g dx ds d Sx S, CellR Γ κ H g ∧ Rep Γ κ H 0 x dx [] Sx ∧ RepL Γ κ H 0 vs ds [] S ∧ bme g b dx ds = some d ∧ ∀ v H' O S', Made Γ κ H (Sx ++ S) H' n v d O S' → Q v H'

theorem bmeR (b : Bme) (hc : X.calm = true) (hu : X.A.units + 70 < cLine) : MtR X (idM b) (rBme (gam X) b (lvlM b)) := by
  intro pins s σ H x xs v us Q I rx rxs ⟨κ, g, dx, ds, d, Sx, S, c, r0, r, e, k⟩
  have cl := c.cl
  unfold bme at e
  split at e
  · -- get(k)
    obtain ⟨kk, ek, e1⟩ := Option.bind_eq_some_iff.mp e
    clear e
    split at e1
    · next hf =>
      cases e1
      obtain ⟨y, rfl, ry⟩ := r.one
      obtain ⟨u, rfl, ru⟩ := vals1 rxs
      have kr := ry.keyR kk ek
      cases r0 with
      | @dic0 _ kvs _ _ _ hr kq rr =>
        have hr := rd_of hr
        obtain ⟨lk, l1, rfl⟩ := leaf_key hf kr
        cases (show v = Value.ref _ from rx)
        have gg : DGet H _ (kV lk) (valV kvs lk) := .inl ⟨kvs, lk, hr, rfl, rfl⟩
        refine d_get1 (by omega) I gg ru fun w' s3 I3 rw' => ?_
        rcases look_leaf l1 _ _ kq.1 rr with ⟨z1, z2⟩ | ⟨d', w, S', z1, z2, z3, z4⟩
        · rw [z2] at rw'; rw [z1] at k
          exact ⟨.non, H, I3, rw', k _ _ _ _ (.same .non (by simp))⟩
        · rw [z2] at rw'; rw [z1] at k
          exact ⟨w, H, I3, rw', k _ _ _ _ (.same z3 fun a z => List.mem_append_left _ (List.mem_cons_of_mem _ (z4 a z)))⟩
      | nic0 hr nn rr =>
        obtain ⟨hd8, a, rfl⟩ := tup_key hf kr
        obtain ⟨_, hs', xs, px, dd⟩ := dn_rd I hr nn.1
        have hkey : (nestedKind X.prog X.w).is s.heap kk a := ⟨KeyR.is I kr rfl, hd8⟩
        cases (show v = Value.ref _ from rx)
        cases (show u = Value.ref _ from ru)
        refine get_keyed (knd := nestedKind X.prog X.w) (by show X.A.units + 1 + 8 < cLine; omega) hkey hs' ⟨xs, dd, rfl⟩ ?_
        rw [valueAt_pairsH]
        rcases look_nest (nk := kk) px nn.1 rr with ⟨z1, z2⟩ | ⟨d', w, u', qq, S', z1, z2, z3, z4, z5⟩
        · rw [z2]; rw [z1] at k
          exact ⟨.non, H, I.tok _, rfl, k _ _ _ _ (.same .non (by simp))⟩
        · rw [z2]; rw [z1] at k
          exact ⟨w, H, I.tok _, z3, k _ _ _ _ (.same z4 fun a z => List.mem_append_left _ (List.mem_cons_of_mem _ (z5 a z)))⟩
    · cases e1
  · -- get(k, x)
    obtain ⟨kk, ek, e1⟩ := Option.bind_eq_some_iff.mp e
    clear e
    split at e1
    · next hf =>
      cases e1
      obtain ⟨y, y2, S1, S2, rfl, ry, ry2, hS⟩ := r.two
      obtain ⟨u, u2, rfl, ru, ru2⟩ := vals2 rxs
      have kr := ry.keyR kk ek
      cases r0 with
      | @dic0 _ kvs _ _ _ hr kq rr =>
        have hr := rd_of hr
        obtain ⟨lk, l1, rfl⟩ := leaf_key hf kr
        cases (show v = Value.ref _ from rx)
        have gg : DGet H _ (kV lk) (valV kvs lk) := .inl ⟨kvs, lk, hr, rfl, rfl⟩
        refine d_get2 (by omega) I gg ru ru2 fun w' s3 I3 rw' => ?_
        rcases look_leaf l1 _ _ kq.1 rr with ⟨z1, z2⟩ | ⟨d', w, S', z1, z2, z3, z4⟩
        · rw [z2] at rw'; rw [z1] at k
          exact ⟨y2, H, I3, rw', k _ _ _ _ (.same ry2 fun a z => List.mem_append_right _ (hS a (.inr z)))⟩
        · rw [z2] at rw'; rw [z1] at k
          exact ⟨w, H, I3, rw', k _ _ _ _ (.same z3 fun a z => List.mem_append_left _ (List.mem_cons_of_mem _ (z4 a z)))⟩
      | nic0 hr nn rr =>
        obtain ⟨hd8, a, rfl⟩ := tup_key hf kr
        obtain ⟨_, hs', xs, px, dd⟩ := dn_rd I hr nn.1
        have hkey : (nestedKind X.prog X.w).is s.heap kk a := ⟨KeyR.is I kr rfl, hd8⟩
        cases (show v = Value.ref _ from rx)
        cases (show u = Value.ref _ from ru)
        refine getOr_keyed (knd := nestedKind X.prog X.w) (by show X.A.units + 1 + 8 < cLine; omega) hkey hs' ⟨xs, dd, rfl⟩ ?_
        rw [valueAt_pairsH]
        rcases look_nest (nk := kk) px nn.1 rr with ⟨z1, z2⟩ | ⟨d', w, u', qq, S', z1, z2, z3, z4, z5⟩
        · rw [z2]; rw [z1] at k
          exact ⟨y2, H, I.tok _, ru2, k _ _ _ _ (.same ry2 fun a z => List.mem_append_right _ (hS a (.inr z)))⟩
        · rw [z2]; rw [z1] at k
          exact ⟨w, H, I.tok _, z3, k _ _ _ _ (.same z4 fun a z => List.mem_append_left _ (List.mem_cons_of_mem _ (z5 a z)))⟩
    · cases e1
  · cases e
  · -- split
    split at e
    · next hz =>
      cases e
      obtain ⟨h1, h2⟩ := Bool.and_eq_true_iff.mp hz
      obtain ⟨y, rfl, ry⟩ := r.one
      cases r0; cases ry
      have h3 : (_ : Nat) ≤ 1000000 := of_decide_eq_true h2
      have h4 := sizeLine_eq
      exact mt_split pins s σ H _ _ v us Q I rx rxs ⟨_, _, rfl, rfl, by simpa using h1, by omega, fun p hp => k _ _ _ _ (.lst cl (RepL.strs _) hp (by simp))⟩
    · cases e
  · -- join
    obtain ⟨zs, e1, e2⟩ := Option.bind_eq_some_iff.mp e
    split at e2
    · next hz =>
      cases e2
      obtain ⟨y, rfl, ry⟩ := r.one
      cases r0
      cases ry with
      | lst0 ha hn q =>
        have := q.toStrs e1; subst this
        have h3 : (_ : Nat) ≤ 1000000 := of_decide_eq_true hz
        exact mt_join pins s σ H _ _ v us Q I rx rxs ⟨_, _, zs, rfl, rfl, .inl (.of ha), by rw [Nat.mul_comm zs.length]; omega, k _ _ _ _ (.same .str (by simp))⟩
    · cases e2
  · -- bit_length
    cases e
    cases r
    cases r0
    cases rxs
    obtain ⟨t, rfl⟩ := rx
    exact call_int_bit_length ⟨.int _, H, I.tok _, ⟨_, rfl⟩, k _ _ _ _ (.same .int (by simp))⟩
  · cases e
end
end VL
/-! V9: truth, slices, isinstance. -/
namespace VL
open PySem L2 PyProof.Rows
theorem mdeps_mem : ∀ {ds : List D}, D.mdeps ds = 0 ↔ ∀ d ∈ ds, d.mdep = 0
  | [] => by simp [D.mdeps]
  | d :: ds => by
    rw [D.mdeps]
    have := mdeps_mem (ds := ds)
    constructor
    · intro h e he
      rcases List.mem_cons.mp he with rfl | he
      · omega
      · exact this.mp (by omega) e he
    · intro h
      have h1 := h d List.mem_cons_self
      have h2 := this.mpr fun e he => h e (List.mem_cons_of_mem _ he)
      omega
theorem mdeps_cut {ds : List D} (h : D.mdeps ds = 0) (lo hi : Option Int) : D.mdeps (VL.cut ds lo hi) ≤ 0 := by
  rw [Nat.le_zero]
  rw [mdeps_mem] at h ⊢
  intro d hd
  unfold VL.cut at hd
  exact h d (List.mem_of_mem_drop (List.mem_of_mem_take hd))
theorem empty_len {α β : Type} {l : List α} {m : List β} (h : l.length = m.length) : l.isEmpty = m.isEmpty := by
  cases l <;> cases m <;> simp at h ⊢
section
variable {X : Cx}
theorem truR : TruR X (fun x H Q => ∃ κ d S b, Rep (gam X) κ H 0 x d [] S ∧ truth d = some b ∧ Q b H) := by
  intro pins s σ H x v Q I rx ⟨κ, d, S, b, r, e, q⟩
  cases r with
  | exn0 => cases e
  | exn1 => cases e
  | raw => cases e
  | non => cases e; exact tru_ok pins s σ H _ v Q I rx ⟨_, rfl, q⟩
  | bl => cases e; exact tru_ok pins s σ H _ v Q I rx ⟨_, rfl, q⟩
  | int => cases e; exact tru_ok pins s σ H _ v Q I rx ⟨_, rfl, q⟩
  | @str _ y =>
    have e1 : (if sz y.length then some (y.length != 0) else none) = some b := e
    split at e1
    · next hz =>
      cases e1
      refine tru_ok pins s σ H _ v Q I rx ⟨_, ⟨sz_line hz, rfl⟩, ?_⟩
      have e2 : ((y.length : Int) != 0) = (y.length != 0) := by
        cases h : y.length <;> simp <;> omega
      rw [e2]; exact q
    · cases e1
  | tup ha rr =>
    cases e
    exact tru_ok pins s σ H _ v Q I rx ⟨_, .inr (.inl ⟨_, ha, rfl⟩), by rw [empty_len rr.len]; exact q⟩
  | lst0 ha hn rr =>
    cases e
    exact tru_ok pins s σ H _ v Q I rx ⟨_, .inl ⟨_, .of ha, rfl⟩, by rw [empty_len rr.len]; exact q⟩
  | @dic0 _ kvs ds _ _ hr kq rr =>
    have hr := rd_of hr
    cases e
    cases (show v = Value.ref _ from rx)
    have hl := kq.1.len
    refine d_truth I hr fun s' I' => ⟨H, I', ?_⟩
    have e2 : (!kvs.isEmpty) = !ds.isEmpty := by
      cases kvs <;> cases ds <;> simp at hl ⊢
    rw [e2]; exact q
  | nic0 hr nn rr => cases e
  | cel _ => cases e
  | glo _ => cases e
  | typ => cases e
  | scr _ => cases e
  | scr1 _ _ => cases e
  | ins _ _ _ _ => cases e

/-- a test from an expression -/
theorem pt_of {e : Expr} {t : TE} (h : PE X e t) (he : ∀ whole, isTrue e X.env whole = (do let v ← whole; standAt e.pos; holding [v] (truthy v))) :
    PT X e (fun σ H Q => t σ H fun x H1 => ∃ κ d S b, Rep (gam X) κ H1 0 x d [] S ∧ truth d = some b ∧ Q b H1) := by
  refine ⟨fun pins s σ H Q I hw => ?_⟩
  exact isTrue_plain (thn (h.run pins s σ H _ I hw) fun v s1 ⟨x, H1, I1, r1, q1⟩ => truR pins s1 σ H1 x v Q I1 r1 q1) (he _)
/-! ### slices -/
def rSlD (Γ : Gam) : V → Option Int → Option Int → Hp → VK → Prop := fun x lo hi H Q => ∃ κ d d' S, Cl κ H ∧ Rep Γ κ H 0 x d [] S ∧ sliD d lo hi = some d' ∧ ∀ v H' O S', Made Γ κ H S H' 1 v d' O S' → Q v H'
theorem slR : SlR X (rSlD (gam X)) := by
  intro pins s σ H x v vl vu lo hi sl Q I rx hs pl pu ⟨κ, d, d', S, cl, r, e, k⟩
  unfold sliD at e
  split at e
  · split at e
    · cases e
      cases r with
      | lst0 ha hn q =>
        obtain ⟨S', q', l⟩ := q.cut lo hi
        exact sl_list pins s σ H _ v vl vu lo hi sl Q I rx hs pl pu ⟨_, _, rfl, .of ha, fun p hp => k _ _ _ _ (.lst cl q' hp fun a z => List.mem_cons_of_mem _ (l a z))⟩
    · cases e
  · split at e
    · cases e
      have e1 : ∀ is : List Int, cutV (is.map V.int) lo hi = (VL.cut is lo hi).map V.int := fun is => by
        unfold cutV VL.cut
        rw [List.length_map, List.map_take, List.map_drop]
      cases r with
      | scr h => exact sl_list pins s σ H _ v vl vu lo hi sl Q I rx hs pl pu ⟨_, _, rfl, h.sq, fun p hp => by rw [e1]; exact k _ _ _ _ (.lst cl (RepL.ints _) hp (by simp))⟩
      | scr1 h n => exact sl_list pins s σ H _ v vl vu lo hi sl Q I rx hs pl pu ⟨_, _, rfl, .of h, fun p hp => by rw [e1]; exact k _ _ _ _ (.lst cl (RepL.ints _) hp (by simp))⟩
    · cases e
  · rename_i ds
    split at e
    · next hz =>
      cases e
      obtain ⟨h1, h2⟩ := Bool.and_eq_true_iff.mp hz
      cases r with
      | tup ha q =>
        obtain ⟨e1, m1⟩ := q.more 1 (by decide) (Nat.le_of_eq (by simpa using h2))
        subst e1
        obtain ⟨S', q', l⟩ := q.cut lo hi
        have hS : S' = [] := List.eq_nil_iff_forall_not_mem.mpr fun a z => by cases l a z
        subst hS
        have hm : D.mdeps (VL.cut ds lo hi) ≤ 0 := mdeps_cut (by simpa using h2) lo hi
        obtain ⟨_, m2⟩ := q'.more 1 (by decide) hm
        refine sl_tupA pins s σ H _ v vl vu lo hi sl Q I rx hs pl pu ⟨_, _, rfl, ha, fun z => ?_, fun z p hp => k _ _ _ _ (.tup cl (m2 (by decide)) hp (by simp))⟩
        rw [q.len] at z
        have e2 : VL.cut ds lo hi = ds := by
          unfold VL.cut
          rw [z.1, z.2]; simp
        rw [e2] at k
        exact k _ _ _ _ (.same (.tup ha (m1 (by decide))) (by simp))
    · cases e
  · rename_i y
    split at e
    · next hz =>
      cases e
      cases r
      exact sl_str pins s σ H _ v vl vu lo hi sl Q I rx hs pl pu ⟨_, rfl, sz_line hz, k (.str (cutS y lo hi)) H [] [] (.same (by
        have e : cutS y lo hi = ⟨(VL.cut y.cps.toList lo hi).toArray⟩ := by
          unfold cutS VL.cut Str.length
          rw [Array.length_toList]
        rw [e]; exact .str) (by simp))⟩
    · cases e
  · cases e

/-! ### isinstance -/
theorem kitR {pins : List (Addr × Obj)} {σ : L2.St} {H : Hp} {s : Shared} {κ : List Addr} {n : Nat} {x : V} {u : Value} {d : D} {O S : List Addr} {a : String} (I : Inv X pins σ H s) (r : Rep (gam X) κ H n x d O S) (rx : L2.RelV x u) (h : tyD d = some a) :
    ∃ P : Heap → Prop, PySem.W.KitX X.K u (.type a) P ∧ P s.heap ∧ u ≠ .builtin "__main__.__loader__#opaque" := by
  have dct : ∀ {p : Addr}, (∃ o, s.heap.get? p = some o ∧ o.cls = .type "dict") → ∃ P : Heap → Prop, PySem.W.KitX X.K (.ref p) (.type "dict") P ∧ P s.heap ∧ Value.ref p ≠ .builtin "__main__.__loader__#opaque" := fun {p} hp =>
    ⟨_, PySem.W.kitx_dict, hp, fun z => nomatch z⟩
  cases r with
  | exn0 => cases h
  | exn1 => cases h
  | raw => cases h
  | non => cases h; exact kit_of I rx (.base .non)
  | bl => cases h; exact kit_of I rx (.base (.bl _))
  | int => cases h; exact kit_of I rx (.base (.int _))
  | str => cases h; exact kit_of I rx (.base (.str _))
  | tup ha q =>
    cases h
    rcases ha with (ha | ⟨o, ha⟩) | ⟨o, its, m, hk, hcl, hd, hz, rv⟩
    · exact kit_of I rx (.base (.tup ha))
    · exact kit_of I rx (.fTuple ha)
    · exact kit_of I rx (.kTuple hk hcl)
  | lst0 ha hn q => cases h; exact kit_of I rx (.base (.lst ha))
  | lst ha hn q => cases h; exact kit_of I rx (.base (.lst ha))
  | dic0 hr kk q =>
    have hr := rd_of hr
    cases h
    rcases hr with hr | ⟨o, hr⟩
    · exact kit_of I rx (.base (.dK hr))
    · exact kit_of I rx (.fDict hr)
  | dic hr kk q => cases h; exact kit_of I rx (.base (.dK hr))
  | nic0 hr nn q =>
    cases h
    cases (show u = Value.ref _ from rx)
    obtain ⟨lo, hl, xs, px, o, es, ep, h1, h2, _⟩ := dn_rd I hr nn.1
    exact dct ⟨o, h1, h2.1⟩
  | nic hr nn q =>
    cases h
    cases (show u = Value.ref _ from rx)
    obtain ⟨lo, hl, xs, px, o, es, ep, h1, h2, _⟩ := dn_rd I (.inl hr) nn.1
    exact dct ⟨o, h1, h2.1⟩
  | cel _ => cases h
  | glo _ => cases h
  | typ => cases h
  | scr _ => cases h
  | scr1 _ _ => cases h
  | ins _ _ _ _ => cases h
theorem kit_tab : (["NoneType", "bool", "int", "str", "list", "tuple", "dict"].all fun a => ["str", "int", "bool", "list", "tuple", "dict"].all fun b => decide (kitB a b = some (subT a b))) = true := by decide +kernel
theorem tyD_mem {d : D} {a : String} (h : tyD d = some a) : a ∈ ["NoneType", "bool", "int", "str", "list", "tuple", "dict"] := by
  cases d <;> cases h <;> decide
theorem kit_any {K : PySem.W.Frag} {a : String} (ha : a ∈ ["NoneType", "bool", "int", "str", "list", "tuple", "dict"]) : ∀ {ts : List String}, ts.all (fun t => ["str", "int", "bool", "list", "tuple", "dict"].contains t) = true →
    PySem.W.kitAny K (.type a) (ts.map Value.type) = some (ts.any (subT a))
  | [], _ => kitAny_nil
  | t :: ts, h => by
    rw [List.all_cons] at h
    obtain ⟨h1, h2⟩ := Bool.and_eq_true_iff.mp h
    have e := of_decide_eq_true (List.all_eq_true.mp (List.all_eq_true.mp kit_tab a ha) t (List.contains_iff_mem.mp h1))
    rw [List.map_cons, List.any_cons]
    refine kitAny_cons (kit_ty e) (fun hb => ?_) fun hb => ?_
    · rw [hb, Bool.false_or]; exact kit_any ha h2
    · rw [hb, Bool.true_or]
/-- isinstance(x, T): one class; a tuple of classes just laid -/
def rIsi1 (Γ : Gam) (t : String) : List V → Hp → VK → Prop := fun xs H Q => ∃ κ x d S b, xs = [x, .ty t] ∧ Rep Γ κ H 0 x d [] S ∧ isiD [t] d = some b ∧ Q (.bl b) H
def rIsiN (Γ : Gam) (ts : List String) : List V → Hp → VK → Prop := fun xs H Q => ∃ κ x p d S b, xs = [x, .ref p] ∧ H p = some (.tup (ts.map V.ty)) ∧ Rep Γ κ H 0 x d [] S ∧ isiD ts d = some b ∧ Q (.bl b) H
theorem isiD_some {ts : List String} {d : D} {b : Bool} (h : isiD ts d = some b) : ∃ a, tyD d = some a ∧ ts.all (fun t => ["str", "int", "bool", "list", "tuple", "dict"].contains t) = true ∧ b = ts.any (subT a) := by
  unfold isiD at h
  obtain ⟨a, e, h⟩ := Option.bind_eq_some_iff.mp h
  split at h
  · next hh => exact ⟨a, e, hh, (Option.some.inj h).symm⟩
  · cases h
theorem isi1R (t : String) : CallR X (.builtin "isinstance") (rIsi1 (gam X) t) := by
  intro pins s σ H xs us Q I rv ⟨κ, x, d, S, b, e0, r, e, q⟩
  subst e0
  obtain ⟨u, w, rfl, ru, rw'⟩ := vals2 rv
  cases (show w = Value.type t from rw')
  obtain ⟨a, ha, h1, rfl⟩ := isiD_some e
  obtain ⟨P, Z, p, hx⟩ := kitR I r ru ha
  have k := kit_any (K := X.K) (tyD_mem ha) h1
  have k1 : PySem.W.kitOne X.K (.type a) (.type t) = some (subT a t) := by
    rw [List.all_cons] at h1
    obtain ⟨h2, _⟩ := Bool.and_eq_true_iff.mp h1
    exact kit_ty (of_decide_eq_true (List.all_eq_true.mp (List.all_eq_true.mp kit_tab a (tyD_mem ha)) t (List.contains_iff_mem.mp h2)))
  refine PySem.W.kia_one Z I.kIn p k1 hx fun tk => ⟨.bl _, H, I.tok tk, rfl, ?_⟩
  rw [show [t].any (subT a) = subT a t by simp] at q
  exact q
theorem vals_ty : ∀ {ts : List String} {us : List Value}, Vals (ts.map V.ty) us → us = ts.map Value.type
  | [], _, .nil => rfl
  | t :: ts, _, .cons r rr => by rw [show _ = Value.type t from r, vals_ty rr]; rfl
theorem isiNR (ts : List String) : CallR X (.builtin "isinstance") (rIsiN (gam X) ts) := by
  intro pins s σ H xs us Q I rv ⟨κ, x, p, d, S, b, e0, hp, r, e, q⟩
  subst e0
  obtain ⟨u, w, rfl, ru, rw'⟩ := vals2 rv
  cases (show w = Value.ref p from rw')
  obtain ⟨a, ha, h1, rfl⟩ := isiD_some e
  obtain ⟨P, Z, pp, hx⟩ := kitR I r ru ha
  have k := kit_any (K := X.K) (tyD_mem ha) h1
  obtain ⟨_, its, rv', o, g1, g2, m, g3⟩ := (show ObjOk X.prog X.w H s.heap p (.tup (ts.map V.ty)) from I.hok p _ hp)
  have e3 := vals_ty rv'
  subst e3
  obtain ⟨oc, od, dt, sl⟩ := o
  simp only at g2 g3
  subst g2 g3
  exact PySem.W.kia_tup Z I.kIn pp g1 k hx fun tk => ⟨.bl _, H, I.tok tk, rfl, q⟩
end
end VL
/-! V10: expressions, case by case. -/
namespace VL
open PySem L2 PyProof.Rows
section
variable {Γ : Gam} {T : Tab} {κ κ1 κ2 : List Addr} {H H1 H2 : Hp} {g g1 g2 : G} {SI : Nat → List Addr} {I J : List Nat} {O1 O2 S1 S2 O S : List Addr} {σ : L2.St} {env : Env} {n : Nat} {X : Cx} {e e' : Expr} {m m' : Ex} {pos : Pos}
theorem Step.dmS0 (s : Step Γ κ H SI I κ1 H1 g1 O S) (r : Rep Γ κ1 H1 n v d O S) : ∀ a ∈ S, ∃ o, H1 a = some o := fun a h => ((r.dom s.cl).2 a h).1
theorem Step.dmS1 (s : Step Γ κ H SI I κ1 H1 g1 O S) {S' : List Addr} {v : V} {d : D} (r : Rep Γ κ1 H1 n v d [] S') : ∀ a ∈ S', ∃ o, H1 a = some o := fun a h => ((r.dom s.cl).2 a h).1
/-- no shared nodes: no names -/
theorem Step.bare (x : Step Γ κ H SI I κ1 H1 g1 O S) : Step Γ κ H SI J κ1 H1 g1 O [] := ⟨x.ext, x.kx, x.cr, x.nd, x.fr, (fun _ h => nomatch h), (fun _ h => nomatch h)⟩
theorem Step.seq0 {L : List Nat} (x : Step Γ κ H SI I κ1 H1 g1 [] S1) (y : Step Γ κ1 H1 SI J κ2 H2 g2 [] S2) (r : EnvR Γ κ H σ env SI) : Step Γ κ H SI L κ2 H2 g2 [] [] :=
  ((x.bare (J := [])).trans (y.bare (J := [])) ⟨(fun _ h => nomatch h), (fun _ h => nomatch h)⟩ (fun i a h => r.dom i a h)).bare
/-- two operands, their shared views -/
theorem run2 {P : V → V → Hp → Prop} (c : CellR Γ κ H g) (r : EnvR Γ κ H σ env SI) {d d' : D} (e1 : ev T.Φ m env g = some (d, g1)) (e2 : ev T.Φ m' env g1 = some (d', g2))
    (k : ∀ v w H2 κ2 Sa Sb, Step Γ κ H SI (nms m ++ nms m') κ2 H2 g2 [] (Sa ++ Sb) → Rep Γ κ2 H2 0 v d [] Sa → Rep Γ κ2 H2 0 w d' [] Sb → P v w H2) :
    tX Γ T m σ H fun x H1 => tX Γ T m' σ H1 fun y H2 => P x y H2 :=
  run1 c r e1 fun v H1 κ1 Sa s1 r1 => run1 s1.cr (r.mono c.cl s1) e2 fun w H2 κ2 Sb s2 r2 =>
    k v w H2 κ2 Sa Sb (s1.trans s2 (r1.dom s1.cl) (fun i a h => r.dom i a h)) (r1.mono s2.ext s1.cl s2.kx) r2
theorem bind3 {α β γ : Type} {x : Option α} {f : α → Option β} {h : β → γ} {z : γ} (e : (x.bind fun a => (f a).map h) = some z) : ∃ a b, x = some a ∧ f a = some b ∧ h b = z := by
  obtain ⟨a, e1, e2⟩ := Option.bind_eq_some_iff.mp e
  obtain ⟨b, e3, e4⟩ := Option.map_eq_some_iff.mp e2
  exact ⟨a, b, e1, e3, e4⟩
theorem bnd {α β : Type} {x : Option α} {f : α → Option β} {z : β} (e : x.bind f = some z) : ∃ a, x = some a ∧ f a = some z := Option.bind_eq_some_iff.mp e
theorem mpd {α β : Type} {x : Option α} {f : α → β} {z : β} (e : x.map f = some z) : ∃ a, x = some a ∧ f a = z := Option.map_eq_some_iff.mp e
/-! ### leaves -/
theorem c_nev : PE X e (tX (gam X) T .nev) := ⟨fun _ _ _ _ _ _ ⟨_, _, _, _, _, _, _, _, h, _⟩ => by rw [ev] at h; cases h⟩
theorem c_leaf {v : V} {d : D} (h : PE X e (tC v)) (hm : ∀ env g, ev T.Φ m env g = some (d, g)) (hr : ∀ κ H, Rep (gam X) κ H (own T.rl m) v d [] []) : PE X e (tX (gam X) T m) :=
  PE.imp h fun σ H Q ⟨κ, g, env, SI, c, r, d', g', q, k⟩ => by
    rw [hm] at q
    cases q
    exact k v H κ [] [] (.refl c) (hr κ H)
theorem c_non {j} : PE X (.Constant .none j pos) (tX (gam X) T .non) := c_leaf pe_non (fun _ _ => by rw [ev]) fun _ _ => .non
theorem c_bl {b j} : PE X (.Constant (.bool b) j pos) (tX (gam X) T (.bl b)) := c_leaf pe_bl (fun _ _ => by rw [ev]) fun _ _ => .bl
theorem c_int {i j} : PE X (.Constant (.int i) j pos) (tX (gam X) T (.int i)) := c_leaf pe_int (fun _ _ => by rw [ev]) fun _ _ => .int
theorem c_str {x j} : PE X (.Constant (.str x) j pos) (tX (gam X) T (.str x)) := c_leaf pe_str (fun _ _ => by rw [ev]) fun _ _ => .str
theorem c_var {i : Nat} {x : Str} (hN : X.N[i]? = some x) (hv : Vis X.env.scope x) (hd : (x == ("__debug__" : Str)) = false) (hcd : (x == ("__classdict__" : Str)) = false) : PE X (.Name x pos) (tX (gam X) T (.var i)) :=
  PE.imp (pe_var hN hv hd hcd) fun σ H Q ⟨κ, g, env, SI, c, r, d, g', q, k⟩ => by
    rw [ev] at q
    obtain ⟨d', e1, e2⟩ := mpd q
    cases e2
    have e1 : env[i]? = some (some d) := by
      cases z : env[i]? with
      | none => rw [z] at e1; cases e1
      | some y => rw [z] at e1; cases y with
        | none => cases e1
        | some w => cases e1; rfl
    obtain ⟨v, S, q1, q2, q3⟩ := r.at_ i d e1
    exact ⟨v, q1, k v H κ [] S ⟨.refl, .refl, c, List.nodup_nil, (fun _ h => nomatch h), (fun a h => .inr ⟨i, List.mem_cons_self, q3 a h⟩), (fun _ _ h => nomatch h)⟩ q2⟩
/-! ### operators -/
theorem c_neg (h : PE X e (tX (gam X) T m)) : PE X (.UnaryOp .USub e pos) (tX (gam X) T (.neg m)) :=
  PE.imp (pe_un un_neg h) fun σ H Q ⟨κ, g, env, SI, c, r, d, g', q, k⟩ => by
    rw [ev] at q
    obtain ⟨⟨d0, g0⟩, e1, q⟩ := bnd q
    obtain ⟨i, e2, e3⟩ := mpd q
    cases e3
    refine run1 c r e1 fun v H1 κ1 S s q1 => ?_
    cases d0 with
    | int j =>
      cases e2
      cases q1
      exact ⟨_, rfl, k _ _ _ _ _ s.bare .int⟩
    | _ => cases e2
theorem c_bin {o : BO} (h : PE X e (tX (gam X) T m)) (h' : PE X e' (tX (gam X) T m')) : PE X (.BinOp e (opB o) e' pos) (tX (gam X) T (.bin o m m')) :=
  PE.imp (pe_op (op_bin o) h h') fun σ H Q ⟨κ, g, env, SI, c, r, d, g', q, k⟩ => by
    rw [ev] at q
    obtain ⟨⟨d1, g1⟩, e1, q⟩ := bnd q
    obtain ⟨⟨d2, g2⟩, e2, q⟩ := bnd q
    obtain ⟨d3, e3, e4⟩ := mpd q
    cases e4
    refine run2 c r e1 e2 fun v w H2 κ2 Sa Sb s q1 q2 => ⟨κ2, d1, d2, d, Sa, Sb, s.cl, q1, q2, e3, fun v' H' O S' md => ?_⟩
    exact k v' H' κ2 O S' (s.made md fun a h => (List.mem_append.mp h).elim (s.dmS1 q1 a) (s.dmS1 q2 a)) md.rep
theorem c_cmp (hu : X.A.units + 70 < cLine) {o : CO} (h : PE X e (tX (gam X) T m)) (h' : PE X e' (tX (gam X) T m')) (hb : behindInMarks (opC o) e' = false) : PE X (.Compare e [opC o] [e'] pos) (tX (gam X) T (.cmp o m m')) :=
  PE.imp (pe_cmpR (cmpR o (by omega)) h h' hb) fun σ H Q ⟨κ, g, env, SI, c, r, d, g', q, k⟩ => by
    rw [ev] at q
    obtain ⟨⟨d1, g1⟩, e1, q⟩ := bnd q
    obtain ⟨⟨d2, g2⟩, e2, q⟩ := bnd q
    obtain ⟨d3, e3, e4⟩ := mpd q
    cases e4
    exact run2 c r e1 e2 fun v w H2 κ2 Sa Sb s q1 q2 => ⟨κ2, _, d1, d2, d3, Sa, Sb, s.cr, q1, q2, e3, k _ _ _ _ _ s.bare .bl⟩
theorem c_cm2 (hu : X.A.units + 70 < cLine) {o p : CO} {e2 : Expr} {m2 : Ex} (h : PE X e (tX (gam X) T m)) (h' : PE X e' (tX (gam X) T m')) (h2 : PE X e2 (tX (gam X) T m2)) (hb : lastMarks [opC o, opC p] [e', e2] = false) : PE X (.Compare e [opC o, opC p] [e', e2] pos) (tX (gam X) T (.cm2 o p m m' m2)) :=
  PE.imp (pe_chain (cmpR o (by omega)) (cmpR p (by omega)) h h' h2 hb) fun σ H Q ⟨κ, g, env, SI, c, r, d, g', q, k⟩ => by
    rw [ev] at q
    obtain ⟨⟨d1, g1⟩, e1, q⟩ := bnd q
    obtain ⟨⟨d2, g2⟩, e2, q⟩ := bnd q
    obtain ⟨d3, e3, q⟩ := bnd q
    refine run2 c r e1 e2 fun v w H2 κ2 Sa Sb s q1 q2 => ⟨κ2, _, d1, d2, d3, Sa, Sb, s.cr, q1, q2, e3, d3, rfl, ?_⟩
    cases d3 with
    | false =>
      cases (show some (D.bl false, g2) = some (d, g') from q)
      exact k _ _ _ _ _ s.bare .bl
    | true =>
      obtain ⟨⟨d4, g4⟩, e5, q⟩ := bnd (show ((ev T.Φ m2 env g2).bind fun t => (cmpD p d2 t.1).map fun d => (D.bl d, t.2)) = some (d, g') from q)
      obtain ⟨d6, e6, e7⟩ := mpd q
      cases e7
      exact run1 s.cr (r.mono c.cl s) e5 fun z H3 κ3 Sc s3 q3 => ⟨κ3, _, d2, d4, d6, Sb, Sc, s3.cr, q2.mono s3.ext s.cl s3.kx, q3, e6, k _ _ _ _ _ (s.seq0 s3 r) .bl⟩
theorem c_sub (hu : X.A.units + 70 < cLine) (hp : PlainIx e') (h : PE X e (tX (gam X) T m)) (h' : PE X e' (tX (gam X) T m')) : PE X (.Subscript e e' pos) (tX (gam X) T (.sub m m')) :=
  PE.imp (pe_ix (ixR (by omega)) h h' hp) fun σ H Q ⟨κ, g, env, SI, c, r, d, g', q, k⟩ => by
    rw [ev] at q
    obtain ⟨⟨d1, g1⟩, e1, q⟩ := bnd q
    obtain ⟨⟨d2, g2⟩, e2, q⟩ := bnd q
    obtain ⟨d3, e3, e4⟩ := mpd q
    cases e4
    exact run2 c r e1 e2 fun v w H2 κ2 Sa Sb s q1 q2 => ⟨κ2, _, d1, d2, d, Sa, Sb, s.cr, q1, q2, e3, fun v' S' r' hs => k v' _ _ [] S' (s.few fun a h => List.mem_append_left _ (hs a h)) r'⟩
theorem c_rev {j p1 p2 p3} (h : PE X e (tX (gam X) T m)) : PE X (.Subscript e (.Slice none none (some (.UnaryOp .USub (.Constant (.int 1) j p1) p2)) p3) pos) (tX (gam X) T (.rev m)) :=
  PE.imp (pe_revL h) fun σ H Q ⟨κ, g, env, SI, c, r, d, g', q, k⟩ => by
    rw [ev] at q
    obtain ⟨⟨d1, g1⟩, e1, q⟩ := bnd q
    obtain ⟨d3, e3, e4⟩ := mpd q
    cases e4
    refine run1 c r e1 fun v H1 κ1 S s q1 => ?_
    cases d1 with
    | lst ds =>
      simp only [revD] at e3
      split at e3
      · rename_i hz
        cases e3
        cases q1 with
        | @lst0 a vs _ _ S0 ha hn q2 =>
          obtain ⟨S', q3, hs⟩ := q2.rev
          refine ⟨_, _, rfl, .inl (.inl ha), fun p hp => ?_⟩
          have md := Made.lst (Sin := a :: S0) s.cl q3 hp (fun a h => List.mem_cons_of_mem _ (hs a h))
          exact k _ _ _ _ _ (s.made md (s.dmS1 (.lst0 ha hn q2))) md.rep
      · cases e3
    | _ => cases e3
theorem fs_pick : ∀ {fvs : List (Str × V)} {fs : List (Str × D)}, fvs.map (·.1) = fs.map (·.1) → ∀ {O S : List Addr}, RepL Γ κ H 0 (fvs.map (·.2)) (fs.map (·.2)) O S → ∀ {f : Str} {d : D}, fs.lookup f = some d →
    ∃ v S', fvs.lookup f = some v ∧ Rep Γ κ H 0 v d [] S' ∧ ∀ a ∈ S', a ∈ S
  | [], [], _, _, _, _, _, _, h => by cases h
  | [], _ :: _, h, _, _, _, _, _, _ => by cases h
  | _ :: _, [], h, _, _, _, _, _, _ => by cases h
  | (x, v) :: fvs, (y, d') :: fs, h, _, _, r, f, d, e => by
    obtain ⟨h1, h2⟩ := List.cons.inj h
    cases (show x = y from h1)
    cases r with
    | cons r1 r2 =>
      rw [List.lookup_cons] at e
      cases hb : f == x with
      | true =>
        rw [hb] at e
        cases e
        cases r1.own0
        exact ⟨v, _, by rw [List.lookup_cons, hb], r1, fun a h => List.mem_append_left _ h⟩
      | false =>
        rw [hb] at e
        obtain ⟨v', S', q1, q2, q3⟩ := fs_pick h2 r2 e
        exact ⟨v', S', by rw [List.lookup_cons, hb]; exact q1, q2, fun a h => List.mem_append_right _ (q3 a h)⟩
/-- an own class: its instances' plain fields -/
def AttF (X : Cx) (cn f : Str) : Prop := ∃ C, X.mg cn = some (.ref C) ∧ Cls X.K C ∧ NoAttr X.K C f
theorem c_att {f cn : Str} (hf : AttF X cn f) (h : PE X e (tX (gam X) T m)) (hb : attributeBase e f X.env (eval e X.env) = eval e X.env) : PE X (.Attribute e f pos) (tX (gam X) T (.att cn m f)) :=
  PE.imp (pe_fld h hb) fun σ H Q ⟨κ, g, env, SI, c, r, d, g', q, k⟩ => by
    rw [ev] at q
    obtain ⟨⟨d1, g1⟩, e1, q⟩ := bnd q
    obtain ⟨d3, e3, e4⟩ := mpd q
    cases e4
    refine run1 c r e1 fun v H1 κ1 S s q1 => ?_
    cases d1 with
    | ins cn' fs =>
      simp only [attD] at e3
      split at e3
      · rename_i hc
        subst hc
        cases q1 with
        | ins ha hm hfs q2 =>
          obtain ⟨C, h1, h2, h3⟩ := hf
          cases hm.symm.trans h1
          obtain ⟨v', S', q3, q4, q5⟩ := fs_pick hfs q2 e3
          exact ⟨_, _, _, _, v', rfl, ha, h2, h3, q3, k _ _ _ _ S' (s.few fun a h => List.mem_cons_of_mem _ (q5 a h)) q4⟩
      · cases e3
    | _ => cases e3
/-! ### argument lists -/
def star : Expr → Bool
  | .Starred .. => true
  | _ => false
theorem star_each {env : PySem.Env} {es : List Expr} (h : star e = false) : starEach (e :: es) env = (false, eval e env) :: starEach es env := by
  cases e <;> first | rfl | cases h
theorem star_all {env : PySem.Env} {pos : Pos} : ∀ {es : List Expr}, es.all (fun e => !star e) = true → (backTo pos (starEach es env)).any (·.1) = false
  | [], _ => rfl
  | e :: es, h => by
    rw [List.all_cons] at h
    obtain ⟨h1, h2⟩ := Bool.and_eq_true_iff.mp h
    rw [star_each (by simpa using h1)]
    have := star_all (pos := pos) (env := env) h2
    simp only [backTo, List.map_cons, List.any_cons] at this ⊢
    simpa using this
theorem a_nil : PA X [] (tXs (gam X) T []) :=
  PA.imp pa_nil fun σ H Q ⟨κ, g, env, SI, c, r, ds, g', q, k⟩ => by
    rw [evs] at q
    cases q
    exact k [] H κ [] [] (.refl c) .nil
theorem a_cons {es : List Expr} {ms : List Ex} (hs : star e = false) (h : PE X e (tX (gam X) T m)) (h' : PA X es (tXs (gam X) T ms)) : PA X (e :: es) (tXs (gam X) T (m :: ms)) :=
  PA.imp (pa_cons h h' (star_each hs)) fun σ H Q ⟨κ, g, env, SI, c, r, ds, g', q, k⟩ => by
    rw [evs] at q
    obtain ⟨⟨d1, g1⟩, e1, q⟩ := bnd q
    obtain ⟨⟨ds2, g2⟩, e2, q⟩ := mpd q
    cases q
    refine ⟨κ, g, env, SI, c, r, d1, g1, e1, fun v H1 κ1 O1 S1 s1 q1 => ⟨κ1, g1, env, SI, s1.cr, r.mono c.cl s1, ds2, g2, e2, fun vs H2 κ2 O2 S2 s2 q2 => ?_⟩⟩
    have st := s1.trans s2 (q1.dom s1.cl) (fun i a h => r.dom i a h)
    have q1' := q1.mono s2.ext s1.cl s2.kx
    obtain ⟨O1', S1', q1'', l1⟩ := Rep.less (owns T.rl (m :: ms)) q1' (by rw [owns]; exact Nat.min_le_left _ _)
    obtain ⟨O2', S2', q2'', l2⟩ := RepL.less (owns T.rl (m :: ms)) q2 (by rw [owns]; exact Nat.min_le_right _ _)
    exact k _ _ _ _ _ (st.sub (l1.app l2)) (.cons q1'' q2'')
/-- arguments, their shared views -/
theorem runs {P : List V → Hp → Prop} {ms : List Ex} (c : CellR Γ κ H g) (r : EnvR Γ κ H σ env SI) {ds : List D} (e1 : evs T.Φ ms env g = some (ds, g1))
    (k : ∀ vs H1 κ1 S, Step Γ κ H SI (nmss ms) κ1 H1 g1 [] S → RepL Γ κ1 H1 0 vs ds [] S → P vs H1) : tXs Γ T ms σ H P :=
  ⟨κ, g, env, SI, c, r, ds, g1, e1, fun v H' κ' O S s q => by
    obtain ⟨O', S', q', l⟩ := RepL.less 0 q (Nat.zero_le _)
    have e0 : O' = [] := RepL.own0 q'
    subst e0
    exact k v H' κ' S' (s.sub l) q'⟩
theorem Step.dmL (s : Step Γ κ H SI I κ1 H1 g1 O S) {S' : List Addr} {v : List V} {d : List D} (r : RepL Γ κ1 H1 n v d [] S') : ∀ a ∈ S', ∃ o, H1 a = some o := fun a h => ((r.dom s.cl).2 a h).1
/-! ### displays -/
theorem owns_hun (rl : Str → Nat) (ms : List Ex) : owns rl ms ≤ 90 := by
  cases ms with
  | nil => exact Nat.le_refl _
  | cons m ms => rw [owns]; exact Nat.le_trans (Nat.min_le_right _ _) (owns_hun rl ms)
theorem c_tup {es : List Expr} {ms : List Ex} {x1} (h : PA X es (tXs (gam X) T ms)) : PE X (.Tuple es x1 pos) (tX (gam X) T (.tup ms)) :=
  PE.imp (pe_tup h) fun σ H Q ⟨κ, g, env, SI, c, r, d, g', q, k⟩ => by
    rw [ev] at q
    obtain ⟨⟨ds, g1⟩, e1, q⟩ := bnd q
    dsimp only at q
    split at q
    · rename_i hz
      cases q
      refine ⟨κ, g, env, SI, c, r, ds, _, e1, fun vs H1 κ1 O S s q1 => ⟨by rw [q1.len]; exact sz_line hz, fun p hp => ?_⟩⟩
      exact k _ _ _ O S (s.put hp) (.tup (.inl (.inl upd_same)) (q1.upd s.cl hp))
    · cases q
theorem c_lst {es : List Expr} {ms : List Ex} (h : PA X es (tXs (gam X) T ms)) : PE X (.List es pos) (tX (gam X) T (.lst ms)) :=
  PE.imp (pe_lst h) fun σ H Q ⟨κ, g, env, SI, c, r, d, g', q, k⟩ => by
    rw [ev] at q
    obtain ⟨⟨ds, g1⟩, e1, q⟩ := bnd q
    dsimp only at q
    split at q
    · rename_i hz
      cases q
      refine ⟨κ, g, env, SI, c, r, ds, _, e1, fun vs H1 κ1 O S s q1 => ⟨by rw [q1.len]; exact sz_line hz, fun p hp => ?_⟩⟩
      refine k _ _ _ (p :: O) S (s.new hp (q1.dom s.cl)) ?_
      rw [own, Nat.add_comm]
      exact .lst upd_same (s.cl.notin hp) (q1.upd s.cl hp)
    · cases q
end
end VL
/-! V11: calls, tests. -/
namespace VL
open PySem L2 PyProof.Rows
section
variable {Γ : Gam} {T : Tab} {κ κ1 κ2 : List Addr} {H H1 H2 : Hp} {g g1 g2 : G} {SI : Nat → List Addr} {I J : List Nat} {O1 O2 S1 S2 O S : List Addr} {σ : L2.St} {env : Env} {n : Nat} {X : Cx} {e e' : Expr} {es : List Expr} {m m' : Ex} {ms : List Ex} {pos : Pos}
/-! ### built-in functions -/
def nameB : Bui → Str
  | .len => "len" | .sorted => "sorted" | .all => "all" | .any => "any" | .list => "list" | .tuple => "tuple" | .dict0 => "dict" | .dict => "dict"
  | .sum => "sum" | .max => "max" | .min => "min" | .max2 => "max" | .min2 => "min" | .int => "int" | .repr => "repr"
theorem boot_b (b : Bui) : bootBuiltins (nameB b) = some (valB b) := by cases b <;> decide +kernel
theorem name_b (b : Bui) : (nameB b ≠ "__name__") ∧ (nameB b == ("__debug__" : Str)) = false := by cases b <;> decide +kernel
theorem own_b (b : Bui) : own T.rl (.bui b ms) = lvlB b := by cases b <;> rfl
theorem c_bui {b : Bui} {p : Pos} (hgu : X.A.guards = some []) (hz : (X.K.lookup sysModules).isSome = true) (hc : X.calm = true) (hu : X.A.units + 70 < cLine) (hg : Gl X (nameB b)) (hm : X.mg (nameB b) = none) (hs : star e = false) (hl : es.all (fun e => !star e) = true) (ha : PA X (e :: es) (tXs (gam X) T ms)) :
    PE X (.Call (.Name (nameB b) p) (e :: es) [] pos) (tX (gam X) T (.bui b ms)) := by
  have key : PE X (.Call (.Name (nameB b) p) (e :: es) [] pos) (tCB (rBui (gam X) b (lvlB b)) (tXs (gam X) T ms)) := by
    have hb := boot_b b
    have hn := name_b b
    have hr := buiR b hgu hz hc hu
    cases hv : valB b with
    | builtin id => rw [hv] at hr hb; exact pe_callB hr hg hm hb ha hn.1 hn.2 (star_each hs) (star_all hl)
    | type id => rw [hv] at hr hb; exact pe_callTy hr hg hm hb ha hn.1 hn.2 (star_each hs) (star_all hl)
    | _ => cases b <;> cases hv
  refine PE.imp key fun σ H Q ⟨κ, g, env, SI, c, r, d, g', q, k⟩ => ?_
  rw [ev] at q
  obtain ⟨⟨ds, g1⟩, e1, q⟩ := bnd q
  obtain ⟨d3, e3, e4⟩ := mpd q
  cases e4
  refine runs c r e1 fun vs H1 κ1 S s q1 => ⟨κ1, _, ds, d, S, s.cr, q1, e3, fun v H' O S' md => ?_⟩
  rw [own_b] at k
  exact k v H' κ1 O S' (s.made md (s.dmL q1)) md.rep
/-! ### built-in methods -/
theorem type_of {pins : List (Addr × Obj)} {s : Shared} {v : V} {u : Value} {d : D} {a : String} (I : Inv X pins σ H s) (r : Rep (gam X) κ H n v d O S) (rx : L2.RelV v u) (h : tyD d = some a) (ha : a ∈ ["str", "int", "list", "dict"]) :
    s.TypeIs u a ∧ ∀ p, u = .ref p → ∃ ob, s.heap.get? p = some ob ∧ ob.dict = none := by
  have dct : ∀ {p : Addr}, u = .ref p → (∃ o, s.heap.get? p = some o ∧ o.ExactDict) → s.TypeIs u "dict" ∧ ∀ p, u = .ref p → ∃ ob, s.heap.get? p = some ob ∧ ob.dict = none := fun {p} e ⟨o, h1, h2⟩ => by
    subst e
    exact ⟨⟨o, h1, h2.1⟩, fun a e => by cases e; exact ⟨o, h1, h2.2.1⟩⟩
  cases r with
  | exn0 => cases h
  | exn1 => cases h
  | raw => cases h
  | int => cases h; exact tyV_is I rx rfl
  | str => cases h; exact tyV_is I rx rfl
  | lst0 hb hn q => cases h; exact tyV_is I rx (.inl ⟨rfl, _, .inl (.inl hb)⟩)
  | lst hb hn q => cases h; exact tyV_is I rx (.inl ⟨rfl, _, .inl (.inl hb)⟩)
  | dic0 hr kk q =>
    have hr := rd_of hr
    cases h
    obtain ⟨_, _, vs, kv, o, es, ep, h1, h2, _⟩ := Rd.ok (P := X.prog) (w := X.w) hr I.hok
    exact dct rx ⟨o, h1, h2⟩
  | dic hr kk q =>
    cases h
    obtain ⟨_, _, vs, kv, o, es, ep, h1, h2, _⟩ := Rd.ok (P := X.prog) (w := X.w) (.inl hr) I.hok
    exact dct rx ⟨o, h1, h2⟩
  | nic0 hr nn q =>
    cases h
    obtain ⟨lo, hl, xs, px, o, es, ep, h1, h2, _⟩ := dn_rd I hr nn.1
    exact dct rx ⟨o, h1, h2⟩
  | nic hr nn q =>
    cases h
    obtain ⟨lo, hl, xs, px, o, es, ep, h1, h2, _⟩ := dn_rd I (.inl hr) nn.1
    exact dct rx ⟨o, h1, h2⟩
  | non => cases h; simp at ha
  | bl => cases h; simp at ha
  | tup _ _ => cases h; simp at ha
  | cel _ => cases h
  | glo _ => cases h
  | typ => cases h
  | scr _ => cases h
  | scr1 _ _ => cases h
  | ins _ _ _ _ => cases h
def nameM : Bme → Str
  | .get1 => "get" | .get2 => "get" | .keys => "keys" | .split => "split" | .splitw => "split" | .join => "join" | .count => "count" | .index => "index" | .bitlen => "bit_length"
def recM : Bme → String
  | .get1 => "dict" | .get2 => "dict" | .keys => "dict" | .split => "str" | .splitw => "str" | .join => "str" | .count => "list" | .index => "list" | .bitlen => "int"
theorem rec_m (b : Bme) : recM b ∈ ["str", "int", "list", "dict"] := by cases b <;> decide
theorem slot_m (b : Bme) : PlainAttrs (recM b) ∧ Slot (recM b) (nameM b) (idM b) ∧ typeOf (.builtin (idM b)) = pure (.type "method_descriptor") := by
  cases b with
  | get1 => exact ⟨F.plainAttrs_dict, F.slot_dict_get, F.type_dict_get⟩
  | get2 => exact ⟨F.plainAttrs_dict, F.slot_dict_get, F.type_dict_get⟩
  | keys => exact ⟨F.plainAttrs_dict, F.slot_dict_keys, F.type_dict_keys⟩
  | split => exact ⟨F.plainAttrs_str, F.slot_str_split, F.type_str_split⟩
  | splitw => exact ⟨F.plainAttrs_str, F.slot_str_split, F.type_str_split⟩
  | join => exact ⟨F.plainAttrs_str, F.slot_str_join, F.type_str_join⟩
  | count => exact ⟨F.plainAttrs_list, F.slot_list_count, F.type_list_count⟩
  | index => exact ⟨F.plainAttrs_list, F.slot_list_index, F.type_list_index⟩
  | bitlen => exact ⟨F.plainAttrs_int, slot_int_bit_length, type_int_bit_length⟩
theorem bme_rec {b : Bme} {dx d : D} {ds : List D} (h : bme g b dx ds = some d) : tyD dx = some (recM b) := by
  unfold bme at h
  split at h <;> first | rfl | cases h
theorem own_m (b : Bme) : own T.rl (.bme b m ms) = lvlM b := by cases b <;> rfl
theorem ev_args {M : Model} {A : Around} {E : Value → Shared → Prop} {s : Shared} {f : Value} {ts : List (Bool × Sem Value)} {Q : Args → Shared → Prop} (hp : ts.any (·.1) = false) (h : wpAny M A (spliced ts) (fun vs s' => Q ⟨vs, []⟩ s') E s) :
    wpAny M A (evalArgs f true ts []) Q E s := by
  cases ts with
  | nil =>
    unfold evalArgs
    show wpAny M A (spliced [] >>= _) Q E s
    refine wpAny_bind (wpAny_mono h (fun vs s' h' => ?_) fun _ _ x => x)
    refine wpAny_bind (wpAny_pure ?_)
    refine wpAny_holding ?_
    exact wpAny_bind (wpAny_pure (wpAny_bind (wpAny_pure (wpAny_pure h'))))
  | cons t ts =>
    obtain ⟨b, x⟩ := t
    rw [List.any_cons] at hp
    obtain ⟨h1, h2⟩ := Bool.or_eq_false_iff.mp hp
    cases (show b = false from h1)
    exact Calls.evalArgs_plain h
theorem star_not {env : PySem.Env} (hl : es.all (fun e => !star e) = true) : ((backTo pos (starEach es env)).all (fun x => !x.1)) = true := by
  have z := star_all (pos := pos) (env := env) hl
  rw [List.all_eq_true]
  intro x hx
  cases hy : x.1 with
  | false => rfl
  | true => rw [List.any_eq_false] at z; exact absurd hy (z x hx)
theorem c_bme {b : Bme} {apos : Pos} (hc : X.calm = true) (hu : X.A.units + 70 < cLine) (h : PE X e (tX (gam X) T m)) (hl : es.all (fun e => !star e) = true) (h30 : es.length < 30) (ha : PA X es (tXs (gam X) T ms))
    (hb : ∀ f, attributeBase e f X.env (eval e X.env) = eval e X.env) (hline : (apos.endLine == pos.line) = true) : PE X (.Call (.Attribute e (nameM b) apos) es [] pos) (tX (gam X) T (.bme b m ms)) := by
  refine ⟨fun pins s σ H Q I0 ⟨κ, g, env, SI, c, r, d, g', q, k⟩ => ?_⟩
  rw [ev] at q
  obtain ⟨⟨dx, g1⟩, e1, q⟩ := bnd q
  obtain ⟨⟨ds, g2⟩, e2, q⟩ := bnd q
  obtain ⟨d3, e3, e4⟩ := mpd q
  cases e4
  obtain ⟨pa, sl, ty⟩ := slot_m b
  refine wpAny_Call_method_late (hb _) (by rw [star_not hl]; simp [backToKw, keywordEach]; exact h30) hline rfl (thn (h.run pins s σ H _ I0 (run1 c r e1 fun v H1 κ1 S s1 q1 =>
    (⟨κ1, S, s1, q1⟩ : ∃ κ1 S, Step (gam X) κ H SI (nms m) κ1 H1 g1 [] S ∧ Rep (gam X) κ1 H1 0 v dx [] S))) fun u s1 ⟨x, H1, I1, rx, κ1, S, st, q1⟩ => ?_)
  obtain ⟨h1, h2⟩ := type_of I1 q1 rx (bme_rec e3) (rec_m b)
  refine ⟨recM b, idM b, pa, sl, ty, h1, h2, Calls.callWith_builtin (star_all hl) (ev_args (star_all hl) ?_)⟩
  refine thn (ha.run pos pins s1 σ H1 _ I1 (runs st.cr (r.mono c.cl st) e2 fun vs H2 κ2 S2 s2 q2 =>
    (⟨κ2, S2, s2, q2⟩ : ∃ κ2 S2, Step (gam X) κ1 H1 SI (nmss ms) κ2 H2 g2 [] S2 ∧ RepL (gam X) κ2 H2 0 vs ds [] S2))) fun us s2 ⟨vs, H2, I2, rv, κ2, S2, st2, q2⟩ => ?_
  have st' := st.trans st2 (q1.dom st.cl) (fun i a h => r.dom i a h)
  have q1' := q1.mono st2.ext st.cl st2.kx
  refine bmeR b hc hu pins s2 σ H2 x vs u us Q I2 rx rv ⟨κ2, g2, dx, ds, d, S, S2, st2.cr, q1', q2, e3, fun v H' O S' md => ?_⟩
  rw [own_m] at k
  exact k v H' κ2 O S' (st'.made md fun a h => (List.mem_append.mp h).elim (st2.dmS1 q1' a) (st2.dmL q2 a)) md.rep
/-! ### slices -/
def optL : Option Expr → List Expr
  | none => []
  | some e => [e]
def tEnd (Γ : Gam) (T : Tab) (ms : List Ex) : TO := fun σ H Q => ∃ κ g env SI, CellR Γ κ H g ∧ EnvR Γ κ H σ env SI ∧ ∃ ds g' l, evs T.Φ ms env g = some (ds, g') ∧ endOf ds = some l ∧ ∀ H' κ', Step Γ κ H SI [] κ' H' g' [] [] → Q l H'
theorem PO.imp {e : Option Expr} {t t' : TO} (h : PO X e t) (i : ∀ σ H Q, t' σ H Q → t σ H Q) : PO X e t' := ⟨fun pins s σ H Q I q => h.run pins s σ H Q I (i σ H Q q)⟩
theorem o_none : PO X none (tEnd (gam X) T []) := PO.imp po_none fun σ H Q ⟨κ, g, env, SI, c, r, ds, g', l, q, q2, k⟩ => by
  rw [evs] at q
  cases q
  cases q2
  exact k H κ (.refl c)
theorem o_some (h : PE X e (tX (gam X) T m)) : PO X (some e) (tEnd (gam X) T [m]) := PO.imp (po_some h) fun σ H Q ⟨κ, g, env, SI, c, r, ds, g', l, q, q2, k⟩ => by
  rw [evs] at q
  obtain ⟨⟨d1, g1⟩, e1, q⟩ := bnd q
  rw [evs] at q
  cases q
  refine run1 c r e1 fun v H1 κ1 S s q1 => ?_
  cases d1 with
  | int i =>
    simp only [endOf] at q2
    split at q2
    · cases q2; cases q1
      exact ⟨i, rfl, k _ _ s.bare⟩
    · cases q2
  | _ => cases q2
theorem c_sli {lo hi : Option Expr} {ml mh : List Ex} {p2 : Pos} (h : PE X e (tX (gam X) T m)) (h1 : PO X lo (tEnd (gam X) T ml)) (h2 : PO X hi (tEnd (gam X) T mh)) : PE X (.Subscript e (.Slice lo hi none p2) pos) (tX (gam X) T (.sli m ml mh)) :=
  PE.imp (pe_slice slR h h1 h2) fun σ H Q ⟨κ, g, env, SI, c, r, d, g', q, k⟩ => by
    rw [ev] at q
    obtain ⟨⟨d1, g1⟩, e1, q⟩ := bnd q
    obtain ⟨⟨d2, g2⟩, e2, q⟩ := bnd q
    obtain ⟨⟨d3, g3⟩, e3, q⟩ := bnd q
    obtain ⟨l, e4, q⟩ := bnd q
    obtain ⟨u, e5, q⟩ := bnd q
    obtain ⟨d6, e6, q⟩ := mpd q
    cases q
    refine run1 c r e1 fun v H1 κ1 S s1 q1 => ⟨κ1, g1, env, SI, s1.cr, r.mono c.cl s1, d2, g2, l, e2, e4, fun H2 κ2 s2 => ?_⟩
    have s12 := s1.trans s2 (q1.dom s1.cl) (fun i a h => r.dom i a h)
    refine ⟨κ2, g2, env, SI, s2.cr, r.mono c.cl s12, d3, g3, u, e3, e5, fun H3 κ3 s3 => ?_⟩
    have q2 := q1.mono s2.ext s1.cl s2.kx
    have s13 := s12.trans s3 (by simpa using q2.dom s2.cl) (fun i a h => r.dom i a h)
    have q3 := q2.mono s3.ext s2.cl s3.kx
    simp only [List.append_nil] at s13
    exact ⟨κ3, d1, d, S, s3.cl, q3, e6, fun v' H' O S' md => k v' H' κ3 O S' (s13.made md (s13.dmS1 q3)) md.rep⟩
/-! ### tests -/
def plainT : Expr → Bool
  | .UnaryOp .Not _ _ => false | .BoolOp .. => false | .IfExp .. => false | .Compare .. => false
  | _ => true
theorem plain_t (h : plainT e = true) : ∀ whole, isTrue e X.env whole = (do let v ← whole; standAt e.pos; holding [v] (truthy v)) := by
  intro whole
  cases e <;> first
    | rfl
    | cases h
    | (rename_i o _ _; cases o <;> first | rfl | cases h)
theorem t_plain (hp : plainT e = true) (h : PE X e (tX (gam X) T m)) : PT X e (tT (gam X) T m) :=
  PT.imp (pt_of h (plain_t hp)) fun σ H Q ⟨κ, g, env, SI, c, r, d, g', b, q, q2, k⟩ =>
    run1 c r q fun v H1 κ1 S s q1 => ⟨κ1, d, S, b, q1, q2, k _ _ s.bare⟩
theorem t_cmp (hu : X.A.units + 70 < cLine) {o : CO} (h : PE X e (tX (gam X) T m)) (h' : PE X e' (tX (gam X) T m')) (hb : behindInMarks (opC o) e' = false) : PT X (.Compare e [opC o] [e'] pos) (tT (gam X) T (.cmp o m m')) :=
  PT.imp (pt_cmpR (cmpR o (by omega)) h h' hb) fun σ H Q ⟨κ, g, env, SI, c, r, d, g', b, q, qt, k⟩ => by
    rw [ev] at q
    obtain ⟨⟨d1, g1⟩, e1, q⟩ := bnd q
    obtain ⟨⟨d2, g2⟩, e2, q⟩ := bnd q
    obtain ⟨d3, e3, e4⟩ := mpd q
    cases e4
    cases qt
    exact run2 c r e1 e2 fun v w H2 κ2 Sa Sb s q1 q2 => ⟨κ2, _, d1, d2, _, Sa, Sb, s.cr, q1, q2, e3, _, rfl, k _ _ s.bare⟩
theorem t_cm2 (hu : X.A.units + 70 < cLine) {o p : CO} {e2 : Expr} {m2 : Ex} (h : PE X e (tX (gam X) T m)) (h' : PE X e' (tX (gam X) T m')) (h2 : PE X e2 (tX (gam X) T m2)) (hb : lastMarks [opC o, opC p] [e', e2] = false) : PT X (.Compare e [opC o, opC p] [e', e2] pos) (tT (gam X) T (.cm2 o p m m' m2)) :=
  PT.imp (pt_chain (cmpR o (by omega)) (cmpR p (by omega)) h h' h2 hb) fun σ H Q ⟨κ, g, env, SI, c, r, d, g', b, q, qt, k⟩ => by
    rw [ev] at q
    obtain ⟨⟨d1, g1⟩, e1, q⟩ := bnd q
    obtain ⟨⟨d2, g2⟩, e2, q⟩ := bnd q
    obtain ⟨d3, e3, q⟩ := bnd q
    refine run2 c r e1 e2 fun v w H2 κ2 Sa Sb s q1 q2 => ⟨κ2, _, d1, d2, d3, Sa, Sb, s.cr, q1, q2, e3, d3, rfl, ?_⟩
    cases d3 with
    | false =>
      cases (show some (D.bl false, g2) = some (d, g') from q)
      cases qt
      exact ⟨_, rfl, k _ _ s.bare⟩
    | true =>
      obtain ⟨⟨d4, g4⟩, e5, q⟩ := bnd (show ((ev T.Φ m2 env g2).bind fun t => (cmpD p d2 t.1).map fun d => (D.bl d, t.2)) = some (d, g') from q)
      obtain ⟨d6, e6, e7⟩ := mpd q
      cases e7
      cases qt
      exact run1 s.cr (r.mono c.cl s) e5 fun z H3 κ3 Sc s3 q3 => ⟨κ3, _, d2, d4, _, Sb, Sc, s3.cr, q2.mono s3.ext s.cl s3.kx, q3, e6, _, rfl, k _ _ (s.seq0 s3 r)⟩
theorem t_not (h : PT X e (tT (gam X) T m)) : PT X (.UnaryOp .Not e pos) (tT (gam X) T (.not m)) :=
  PT.imp (pt_not h) fun σ H Q ⟨κ, g, env, SI, c, r, d, g', b, q, qt, k⟩ => by
    rw [ev] at q
    obtain ⟨⟨d1, g1⟩, e1, q⟩ := bnd q
    obtain ⟨b1, e2, e3⟩ := mpd q
    cases e3
    cases qt
    exact ⟨κ, g, env, SI, c, r, d1, _, b1, e1, e2, fun H' κ' s => k H' κ' s⟩
def opL (isAnd : Bool) : BoolOp := if isAnd then .And else .Or
def tB2 (Γ : Gam) (T : Tab) (isAnd : Bool) (ms : List Ex) : TT := fun σ H Q => ∃ κ g env SI, CellR Γ κ H g ∧ EnvR Γ κ H σ env SI ∧ ∃ g' b, evb T.Φ isAnd ms env g = some (b, g') ∧ ∀ H' κ', Step Γ κ H SI [] κ' H' g' [] [] → Q b H'
theorem PW.imp {t t' : TT} (h : PW X e t) (i : ∀ σ H Q, t' σ H Q → t σ H Q) : PW X e t' := ⟨fun wh pins s σ H Q I q => h.run wh pins s σ H Q I (i σ H Q q)⟩
theorem w_one {isAnd : Bool} (h : PT X e (tT (gam X) T m)) : PW X (.BoolOp (opL isAnd) [e] pos) (tB2 (gam X) T isAnd [m]) := by
  have key : PW X (.BoolOp (opL isAnd) [e] pos) (tT (gam X) T m) := by
    cases isAnd with
    | true => exact pw_and1 h
    | false => exact pw_or1 h
  refine PW.imp key fun σ H Q ⟨κ, g, env, SI, c, r, g', b, q, k⟩ => ?_
  rw [evb] at q
  obtain ⟨⟨d1, g1⟩, e1, q⟩ := bnd q
  obtain ⟨b1, e2, q⟩ := bnd q
  refine ⟨κ, g, env, SI, c, r, d1, g', b, ?_, ?_, k⟩
  · rw [e1]
    split at q
    · rw [evb] at q; cases q; rfl
    · cases q; rfl
  · dsimp only at e2
    rw [e2]
    split at q
    · next hb => rw [evb] at q; cases q; rw [beq_iff_eq.mp hb]
    · next hb => cases q; cases b1 <;> cases isAnd <;> simp at hb ⊢
theorem w_cons {isAnd : Bool} (h : PT X e (tT (gam X) T m)) (h' : PW X (.BoolOp (opL isAnd) (e' :: es) pos) (tB2 (gam X) T isAnd (m' :: ms))) : PW X (.BoolOp (opL isAnd) (e :: e' :: es) pos) (tB2 (gam X) T isAnd (m :: m' :: ms)) := by
  have key : PW X (.BoolOp (opL isAnd) (e :: e' :: es) pos) (fun σ H Q => tT (gam X) T m σ H fun b H1 => if b = isAnd then tB2 (gam X) T isAnd (m' :: ms) σ H1 Q else Q (!isAnd) H1) := by
    cases isAnd with
    | true => exact PW.imp (pw_and h h') fun σ H Q ⟨κ, g, env, SI, c, r, d, g', b, q, qt, k⟩ => ⟨κ, g, env, SI, c, r, d, g', b, q, qt, fun H' κ' s => by have z := k H' κ' s; cases b <;> simpa using z⟩
    | false => exact PW.imp (pw_or h h') fun σ H Q ⟨κ, g, env, SI, c, r, d, g', b, q, qt, k⟩ => ⟨κ, g, env, SI, c, r, d, g', b, q, qt, fun H' κ' s => by have z := k H' κ' s; cases b <;> simpa using z⟩
  refine PW.imp key fun σ H Q ⟨κ, g, env, SI, c, r, g', b, q, k⟩ => ?_
  rw [evb] at q
  obtain ⟨⟨d1, g1⟩, e1, q⟩ := bnd q
  obtain ⟨b1, e2, q⟩ := bnd q
  refine ⟨κ, g, env, SI, c, r, d1, g1, b1, e1, e2, fun H' κ' s => ?_⟩
  dsimp only at q
  split at q
  · next hb =>
    rw [if_pos (beq_iff_eq.mp hb)]
    exact ⟨κ', g1, env, SI, s.cr, r.mono c.cl s, g', b, q, fun H2 κ2 s2 => k H2 κ2 (s.seq0 s2 r)⟩
  · next hb =>
    rw [if_neg (fun z => hb (beq_iff_eq.mpr z))]
    cases q
    exact k H' κ' s
theorem t_bop {isAnd : Bool} (h : PW X e (tB2 (gam X) T isAnd ms)) : PT X e (tT (gam X) T (.bop isAnd ms)) :=
  PT.imp h.pt fun σ H Q ⟨κ, g, env, SI, c, r, d, g', b, q, qt, k⟩ => by
    rw [ev] at q
    obtain ⟨⟨b1, g1⟩, e1, q⟩ := mpd q
    cases q
    cases qt
    exact ⟨κ, g, env, SI, c, r, _, _, e1, k⟩
end
end VL
/-! V12: what a write leaves; what is walked; comprehensions. -/
namespace VL
open PySem L2 PyProof.Rows
/-- things that are never written -/
def imm : HO → Bool
  | .tup _ => true | .frz _ _ => true | .own _ => true | .xd _ => true | .met _ _ => true | .rng _ _ => true | .tbl _ => true
  | _ => false
/-- off the cells the things that are never written, and those of F, stand -/
structure Keeps (κ1 : List Addr) (H1 : Hp) (κ2 : List Addr) (H2 : Hp) (F : Addr → Prop) : Prop where
  at_ : ∀ a o, H1 a = some o → a ∉ κ1 → (imm o = true ∨ F a) → H2 a = some o
  kx : KExt κ1 κ2 H1
  dm : ∀ a, H2 a = none → H1 a = none
section
variable {Γ : Gam} {T : Tab} {κ κ1 κ2 κ3 : List Addr} {H H1 H2 H3 : Hp} {g g1 g2 : G} {SI SJ : Nat → List Addr} {I J : List Nat} {O1 O2 S1 S2 O S : List Addr} {σ : L2.St} {env : Env} {n : Nat} {X : Cx} {e e' : Expr} {es : List Expr} {m m' : Ex} {ms : List Ex} {pos : Pos} {F F' : Addr → Prop}
theorem Keeps.imp (k : Keeps κ1 H1 κ2 H2 F) (h : ∀ a, F' a → F a) : Keeps κ1 H1 κ2 H2 F' := ⟨fun a o e n z => k.at_ a o e n (z.imp id (h a)), k.kx, k.dm⟩
theorem Keeps.sqT {K : PySem.W.Frag} {a : Addr} {vs : List V} (x : Keeps κ1 H1 κ2 H2 F) (c : Cl κ1 H1) (h : SqT K H1 a vs) : SqT K H2 a vs := by
  rcases h with (h | ⟨o, h⟩) | h
  · exact .inl (.inl (x.at_ a _ h (c.no h fun _ z => by cases z) (.inl rfl)))
  · exact .inl (.inr ⟨o, x.at_ a _ h (c.no h fun _ z => by cases z) (.inl rfl)⟩)
  · exact .inr h
theorem Keeps.scr {K : PySem.W.Frag} {a : Addr} {is : List Int} (x : Keeps κ1 H1 κ2 H2 F) (c : Cl κ1 H1) (h : ScrR K H1 a is) : ScrR K H2 a is := by
  rcases h with ⟨o, h⟩ | h
  · exact .inl ⟨o, x.at_ a _ h (c.no h fun _ z => by cases z) (.inl rfl)⟩
  · exact .inr h
theorem Keeps.rd {a : Addr} {u : HO} (x : Keeps κ1 H1 κ2 H2 F) (c : Cl κ1 H1) (h : Rd H1 a u) (ha : F a) (hu : ∀ vs, u ≠ .lst vs) : Rd H2 a u := by
  rcases h with h | ⟨o, h⟩
  · exact .inl (x.at_ a _ h (c.no h hu) (.inr ha))
  · exact .inr ⟨o, x.at_ a _ h (c.no h fun _ z => by cases z) (.inl rfl)⟩
mutual
theorem KeyR.away {K : PySem.W.Frag} (x : Keeps κ1 H1 κ2 H2 F) (c : Cl κ1 H1) : ∀ {k : NestedKey} {v : V}, KeyR K H1 k v → KeyR K H2 k v
  | _, _, .none => .none
  | _, _, .num i => .num i
  | _, _, .text y => .text y
  | _, _, .tup h r => .tup (x.sqT c h) (KeysR.away x c r)
theorem KeysR.away {K : PySem.W.Frag} (x : Keeps κ1 H1 κ2 H2 F) (c : Cl κ1 H1) : ∀ {k : List NestedKey} {v : List V}, KeysR K H1 k v → KeysR K H2 k v
  | _, _, .nil => .nil
  | _, _, .cons h r => .cons (KeyR.away x c h) (KeysR.away x c r)
end
theorem NN.away {K : PySem.W.Frag} (x : Keeps κ1 H1 κ2 H2 F) (c : Cl κ1 H1) {kvs : List (NestedKey × Addr × V)} {ds : List (NestedKey × D)} (h : NN K H1 kvs ds) : NN K H2 kvs ds :=
  ⟨Paired.mapP h.1 fun p q ⟨a, b, e⟩ => ⟨a, b, KeyR.away x c e⟩, h.2⟩
theorem app_l {P : Addr → Prop} {A B : List Addr} (h : ∀ a ∈ A ++ B, P a) : ∀ a ∈ A, P a := fun a z => h a (List.mem_append_left _ z)
theorem app_r {P : Addr → Prop} {A B : List Addr} (h : ∀ a ∈ A ++ B, P a) : ∀ a ∈ B, P a := fun a z => h a (List.mem_append_right _ z)
theorem con_h {P : Addr → Prop} {b : Addr} {B : List Addr} (h : ∀ a ∈ b :: B, P a) : P b := h b List.mem_cons_self
theorem con_t {P : Addr → Prop} {b : Addr} {B : List Addr} (h : ∀ a ∈ b :: B, P a) : ∀ a ∈ B, P a := fun a z => h a (List.mem_cons_of_mem _ z)
mutual
theorem Rep.away (x : Keeps κ1 H1 κ2 H2 F) (c : Cl κ1 H1) : ∀ {n : Nat} {v : V} {d : D} {O S : List Addr}, Rep Γ κ1 H1 n v d O S → (∀ a ∈ O, F a) → (∀ a ∈ S, F a) → Rep Γ κ2 H2 n v d O S
  | _, _, _, _, _, .non, _, _ => .non
  | _, _, _, _, _, .bl, _, _ => .bl
  | _, _, _, _, _, .int, _, _ => .int
  | _, _, _, _, _, .str, _, _ => .str
  | _, _, _, _, _, .typ, _, _ => .typ
  | _, _, _, _, _, .cel h, _, _ => .cel (x.kx.get h)
  | _, _, _, _, _, .glo h, _, _ => .glo h
  | _, _, _, _, _, .tup h r, p, q => .tup (x.sqT c h) (RepL.away x c r p q)
  | _, _, _, _, _, .scr h, _, _ => .scr (x.scr c h)
  | _, _, _, _, _, .scr1 h n, _, q => .scr1 (x.at_ _ _ h n (.inr (con_h q))) (x.kx.notin h n)
  | _, _, _, _, _, .lst0 h n r, p, q => .lst0 (x.at_ _ _ h n (.inr (con_h q))) (x.kx.notin h n) (RepL.away x c r p (con_t q))
  | _, _, _, _, _, .lst h n r, p, q => .lst (x.at_ _ _ h n (.inr (con_h p))) (x.kx.notin h n) (RepL.away x c r (con_t p) q)
  | _, _, _, _, _, .dic0 h k r, p, q => .dic0 (x.at_ _ _ h (c.no h fun _ z => by cases z) (.inr (con_h q))) k (RepL.away x c r p (con_t q))
  | _, _, _, _, _, .dic h k r, p, q => .dic (x.at_ _ _ h (c.no h fun _ z => by cases z) (.inr (con_h p))) k (RepL.away x c r (con_t p) q)
  | _, _, _, _, _, .nic0 h k r, p, q => .nic0 (x.rd c h (con_h q) fun _ z => nomatch z) (k.away x c) (RepL.away x c r p (con_t q))
  | _, _, _, _, _, .nic h k r, p, q => .nic (x.at_ _ _ h (c.no h fun _ z => by cases z) (.inr (con_h p))) (k.away x c) (RepL.away x c r (con_t p) q)
  | _, _, _, _, _, .exn0 h g, p, q => .exn0 (x.at_ _ _ h (c.no h exo_lst) (.inr (con_h q))) g
  | _, _, _, _, _, .exn1 h h2 g r, p, q => .exn1 (x.at_ _ _ h (c.no h exo_lst) (.inr (con_h q))) (x.at_ _ _ h2 (c.no h2 exd_lst) (.inr (con_h (con_t q)))) g (Rep.away x c r p (con_t (con_t q)))
  | _, _, _, _, _, .raw, _, _ => .raw
  | _, _, _, _, _, .ins h g k r, p, q => .ins (x.at_ _ _ h (c.no h fun _ z => by cases z) (.inr (con_h q))) g k (RepL.away x c r p (con_t q))
theorem RepL.away (x : Keeps κ1 H1 κ2 H2 F) (c : Cl κ1 H1) : ∀ {n : Nat} {v : List V} {d : List D} {O S : List Addr}, RepL Γ κ1 H1 n v d O S → (∀ a ∈ O, F a) → (∀ a ∈ S, F a) → RepL Γ κ2 H2 n v d O S
  | _, _, _, _, _, .nil, _, _ => .nil
  | _, _, _, _, _, .cons h r, p, q => .cons (Rep.away x c h (app_l p) (app_l q)) (RepL.away x c r (app_r p) (app_r q))
end
/-- one thing is written -/
theorem Keeps.upd {p : Addr} {o : HO} (hm : ∀ u, H p = some u → imm u = false) : Keeps κ H κ (L2.upd H p o) (fun a => a ≠ p) :=
  ⟨fun a u e n z => by
    have : a ≠ p := by
      rcases z with z | z
      · intro h
        subst h
        rw [hm u e] at z; cases z
      · exact z
    rw [upd_ne this]; exact e, .refl, fun a h => by
    by_cases z : a = p
    · subst z; rw [upd_same] at h; cases h
    · rw [upd_ne z] at h; exact h⟩
theorem CellR.away {p : Addr} {o : HO} (c : CellR Γ κ H g) (hm : ∀ u, H p = some u → imm u = false) (hp : p ∉ κ) : CellR Γ κ (L2.upd H p o) g :=
  ⟨c.len, c.nd, fun i a ds h1 h2 => by
    obtain ⟨vs, e, r⟩ := c.at_ i a ds h1 h2
    have : a ≠ p := fun z => by subst z; exact hp (List.mem_of_getElem? h1)
    exact ⟨vs, by rw [upd_ne this]; exact e, RepL.away (Keeps.upd hm) c.cl r (fun _ z => nomatch z) (fun _ z => nomatch z)⟩⟩
/-- a node of one's own is written -/
theorem Step.write {p : Addr} {o : HO} (x : Step Γ κ H SI I κ1 H1 g1 O S) (hp : p ∈ O) (hm : ∀ u, H1 p = some u → imm u = false) (hk : p ∉ κ1) : Step Γ κ H SI I κ1 (L2.upd H1 p o) g1 O S where
  ext := fun b u e n => by
    have : b ≠ p := fun z => by subst z; rw [x.fr b hp] at e; cases e
    rw [upd_ne this]; exact x.ext b u e n
  kx := x.kx
  cr := x.cr.away hm hk
  nd := x.nd
  fr := x.fr
  al := x.al
  ap := x.ap
/-- a turn's tuple -/
def Grow (H H' : Hp) : Prop := H' = H ∨ ∃ p vs, H p = none ∧ H' = L2.upd H p (.tup vs)
/-- what is walked, whatever is written meanwhile off its nodes -/
def ItOk (Γ : Gam) (J : It) (xs : List D) (κ1 : List Addr) (H1 : Hp) (S : List Addr) : Prop :=
  ∀ κ2 H2, Keeps κ1 H1 κ2 H2 (fun a => a ∈ S) → ∀ i, (∀ d, xs[i]? = some d → J.go i H2 ∧ ∀ x H3, J.yld i H2 x H3 → Grow H2 H3 ∧ ∃ S', Rep Γ κ2 H3 0 x d [] S' ∧ ∀ a ∈ S', a ∈ S) ∧ (xs.length ≤ i → J.stop i H2)
def tI (Γ : Gam) (T : Tab) (k : ItK) (ms : List Ex) : TI := fun σ H R => ∃ κ g env SI, CellR Γ κ H g ∧ EnvR Γ κ H σ env SI ∧ ∃ ds g1 xs, evs T.Φ ms env g = some (ds, g1) ∧ iter g1 k ds = some xs ∧
  ∀ J H1 κ1 S, Step Γ κ H SI (nmss ms) κ1 H1 g1 [] S → (∀ a ∈ S, ∃ o, H1 a = some o) → ItOk Γ J xs κ1 H1 S → R J H1
theorem PI.imp {tg : Expr} {w w' : TI} (h : PI X tg e w) (i : ∀ σ H R, w' σ H R → w σ H R) : PI X tg e w' := ⟨fun pins s σ H R I q => h.run pins s σ H R I (i σ H R q)⟩
/-- one operand -/
theorem runs1 {P : V → Hp → Prop} (c : CellR Γ κ H g) (r : EnvR Γ κ H σ env SI) {ds : List D} (e1 : evs T.Φ [m] env g = some (ds, g1)) :
    ∃ d, ds = [d] ∧ ev T.Φ m env g = some (d, g1) := by
  rw [evs] at e1
  obtain ⟨⟨d1, g2⟩, h1, h2⟩ := bnd e1
  rw [evs] at h2
  cases h2
  exact ⟨d1, rfl, h1⟩
/-- a list, a tuple -/
theorem it_lst {K : PySem.W.Frag} {a : Addr} {vs : List V} {ds : List D} {S : List Addr} (c : Cl κ1 H1) (h : H1 a = some (.lst vs)) (hn : a ∉ κ1) (r : RepL Γ κ1 H1 0 vs ds [] S) : ItOk Γ (Itl K a) ds κ1 H1 (a :: S) := by
  intro κ2 H2 k i
  have e := k.at_ a _ h hn (.inr List.mem_cons_self)
  have r2 : RepL Γ κ2 H2 0 vs ds [] S := RepL.away k c r (fun _ z => nomatch z) fun a z => List.mem_cons_of_mem _ z
  refine ⟨fun d hd => ?_, fun hi => ⟨vs, .inl (.inl e), by rw [r2.len]; exact hi⟩⟩
  obtain ⟨v, S', h1, h2, h3⟩ := r2.pick i d hd
  refine ⟨⟨vs, v, .inl (.inl e), h1⟩, fun x H3 ⟨e3, hx⟩ => ?_⟩
  have := hx vs (.inl (.inl e))
  rw [h1] at this
  cases this
  subst e3
  exact ⟨.inl rfl, S', h2, fun a z => List.mem_cons_of_mem _ (h3 a z)⟩
theorem it_tup {K : PySem.W.Frag} {a : Addr} {vs : List V} {ds : List D} {S : List Addr} (c : Cl κ1 H1) (h : SqT K H1 a vs) (r : RepL Γ κ1 H1 0 vs ds [] S) : ItOk Γ (Itt K a) ds κ1 H1 S := by
  intro κ2 H2 k i
  have e := k.sqT c h
  have r2 : RepL Γ κ2 H2 0 vs ds [] S := RepL.away k c r (fun _ z => nomatch z) fun a z => z
  refine ⟨fun d hd => ?_, fun hi => ⟨vs, e, by rw [r2.len]; exact hi⟩⟩
  obtain ⟨v, S', h1, h2, h3⟩ := r2.pick i d hd
  refine ⟨⟨vs, v, e, h1⟩, fun x H3 ⟨e3, hx⟩ => ?_⟩
  have := hx vs e
  rw [h1] at this
  cases this
  subst e3
  exact ⟨.inl rfl, S', h2, h3⟩
theorem it_rng {lo : Int} {n : Nat} {S : List Addr} : ItOk Γ (Itr lo n) (rngL lo n) κ1 H1 S := by
  intro κ2 H2 k i
  refine ⟨fun d hd => ?_, fun hi => (show n ≤ i by simpa [rngL] using hi)⟩
  have hi : i < n := by
    have := (List.getElem?_eq_some_iff.mp hd).1
    simpa [rngL] using this
  refine ⟨hi, fun x H3 ⟨e3, hx⟩ => ?_⟩
  subst e3 hx
  have : d = .int (lo + i) := by
    simp [rngL, List.getElem?_map, List.getElem?_range hi] at hd
    exact hd.symm
  subst this
  exact ⟨.inl rfl, [], .int, fun _ z => nomatch z⟩
theorem it_str {x : Str} {S : List Addr} : ItOk Γ (Its x) (x.cps.toList.map fun c => .str ⟨#[c]⟩) κ1 H1 S := by
  intro κ2 H2 k i
  refine ⟨fun d hd => ?_, fun hi => (show x.cps.size ≤ i by simpa using hi)⟩
  rw [List.getElem?_map, Array.getElem?_toList] at hd
  obtain ⟨c, h1, h2⟩ := Option.map_eq_some_iff.mp hd
  refine ⟨(Array.getElem?_eq_some_iff.mp h1).1, fun v H3 ⟨e3, c', h3, h4⟩ => ?_⟩
  rw [h1] at h3
  cases h3
  subst e3 h4 h2
  exact ⟨.inl rfl, [], .str, fun _ z => nomatch z⟩
/-- a list, a tuple, a text -/
theorem p_val {tg : Expr} (h : PE X e (tX (gam X) T m)) : PI X tg e (tI (gam X) T .val [m]) := by
  refine ⟨fun pins s σ H R I ⟨κ, g, env, SI, c, r, ds, g1, xs, e1, e2, k⟩ => ?_⟩
  obtain ⟨d, rfl, e0⟩ := runs1 (P := fun _ _ => True) c r e1
  rw [show nmss [m] = nms m by rw [nmss, nmss, List.append_nil]] at k
  cases d with
  | lst ds =>
    cases e2
    refine (pi_list (tg := tg) h).run pins s σ H R I (run1 c r e0 fun v H1 κ1 S s1 q1 => ?_)
    have dm := s1.dmS1 q1
    cases q1 with
    | lst0 ha hn q => exact ⟨_, rfl, ⟨_, .inl (.inl ha)⟩, k _ _ _ _ s1 dm (it_lst s1.cl ha hn q)⟩
  | tup ds =>
    cases e2
    refine (pi_tup (tg := tg) h).run pins s σ H R I (run1 c r e0 fun v H1 κ1 S s1 q1 => ?_)
    have dm := s1.dmS1 q1
    cases q1 with
    | tup ha q => exact ⟨_, rfl, ⟨_, ha⟩, k _ _ _ _ s1 dm (it_tup s1.cl ha q)⟩
  | str x =>
    cases e2
    refine (pi_str (tg := tg) h).run pins s σ H R I (run1 c r e0 fun v H1 κ1 S s1 q1 => ?_)
    have dm := s1.dmS1 q1
    cases q1 with
    | str => exact ⟨_, rfl, k _ _ _ _ s1 dm it_str⟩
  | _ => cases e2
theorem p_rng1 {tg a : Expr} {p : Pos} (hg : Gl X "range") (hm : X.mg "range" = none) (hs : star a = false) (ha : PA X [a] (tXs (gam X) T ms)) : PI X tg (.Call (.Name "range" p) [a] [] pos) (tI (gam X) T .rng1 ms) :=
  PI.imp (pi_range1 hg hm ha (star_each hs)) fun σ H R ⟨κ, g, env, SI, c, r, ds, g1, xs, e1, e2, k⟩ => by
    refine runs c r e1 fun vs H1 κ1 S s1 q1 => ?_
    have dm := s1.dmL q1
    match ds, e2, q1 with
    | [.int j], e2, q1 =>
      simp only [iter] at e2
      split at e2
      · rename_i hr
        cases e2
        obtain ⟨v, rfl, q2⟩ := q1.one
        cases q2
        have := of_decide_eq_true hr
        exact ⟨j, rfl, by omega, by omega, k _ _ _ _ s1 dm it_rng⟩
      · cases e2
theorem p_rng2 {tg a b : Expr} {p : Pos} (hg : Gl X "range") (hm : X.mg "range" = none) (hs : star a = false) (hs2 : star b = false) (ha : PA X [a, b] (tXs (gam X) T ms)) : PI X tg (.Call (.Name "range" p) [a, b] [] pos) (tI (gam X) T .rng2 ms) :=
  PI.imp (pi_range2 hg hm ha (by rw [star_each hs, star_each hs2] <;> rfl) (star_each hs2)) fun σ H R ⟨κ, g, env, SI, c, r, ds, g1, xs, e1, e2, k⟩ => by
    refine runs c r e1 fun vs H1 κ1 S s1 q1 => ?_
    have dm := s1.dmL q1
    match ds, e2, q1 with
    | [.int i, .int j], e2, q1 =>
      simp only [iter] at e2
      split at e2
      · rename_i hr
        cases e2
        obtain ⟨v, w, _, _, rfl, q2, q3, _⟩ := q1.two
        cases q2
        cases q3
        have := of_decide_eq_true hr
        exact ⟨i, j, rfl, by omega, k _ _ _ _ s1 dm it_rng⟩
      · cases e2
end
end VL
/-! V13: targets; list comprehensions. -/
namespace VL
open PySem L2 PyProof.Rows
section
variable {Γ : Gam} {T : Tab} {κ κ1 κ2 κ3 : List Addr} {H H1 H2 H3 : Hp} {g g1 g2 : G} {SI SJ : Nat → List Addr} {I J : List Nat} {O1 O2 S1 S2 O S : List Addr} {σ : L2.St} {env : VL.Env} {n : Nat} {X : Cx} {e e' : Expr} {es : List Expr} {m m' : Ex} {ms : List Ex} {pos : Pos} {F F' : Addr → Prop}
theorem wipe_at (σ : L2.St) : ∀ (vs : List Nat) (i : Nat), (wipe σ vs)[i]? = if i ∈ vs then (σ[i]?).map (fun _ => none) else σ[i]?
  | [], i => by simp [wipe]
  | v :: vs, i => by
    unfold wipe
    rw [List.getElem?_set, wipe_at σ vs i]
    by_cases h : v = i
    · subst h
      simp only [List.mem_cons, true_or, if_true]
      by_cases hl : v < (wipe σ vs).length
      · rw [if_pos hl]
        rw [wipe_length] at hl
        rw [List.getElem?_eq_getElem hl]; rfl
      · rw [if_neg hl]
        rw [wipe_length] at hl
        rw [List.getElem?_eq_none (by omega)]; rfl
    · rw [if_neg h]
      have : (i ∈ v :: vs) ↔ i ∈ vs := by
        rw [List.mem_cons]
        exact ⟨fun z => z.elim (fun z => absurd z.symm h) id, .inr⟩
      by_cases hi : i ∈ vs
      · rw [if_pos hi, if_pos (this.mpr hi)]
      · rw [if_neg hi, if_neg (fun z => hi (this.mp z))]
theorem wipeE_eq (env : VL.Env) : ∀ vs : List Nat, wipeE env vs = (vs.foldr (fun v e => e.set v none) env)
  | [] => rfl
  | v :: vs => by rw [wipeE, List.foldr_cons, wipeE_eq env vs]
theorem wipeE_len (env : VL.Env) : ∀ vs : List Nat, (wipeE env vs).length = env.length
  | [] => rfl
  | v :: vs => by rw [wipeE, List.length_set, wipeE_len env vs]
theorem wipeE_some {env : VL.Env} : ∀ {vs : List Nat} {i : Nat} {d : D}, (wipeE env vs)[i]? = some (some d) → env[i]? = some (some d) ∧ i ∉ vs
  | [], i, d, h => ⟨h, by simp⟩
  | v :: vs, i, d, h => by
    rw [wipeE, List.getElem?_set] at h
    split at h
    · split at h <;> cases h
    · rename_i hv
      obtain ⟨h1, h2⟩ := wipeE_some h
      exact ⟨h1, fun z => (List.mem_cons.mp z).elim (fun z => hv z.symm) h2⟩
theorem wipe_idem (σ : L2.St) (vs : List Nat) : wipe (wipe σ vs) vs = wipe σ vs := List.ext_getElem? fun i => by
  rw [wipe_at, wipe_at]
  by_cases h : i ∈ vs
  · rw [if_pos h, if_pos h, Option.map_map]; rfl
  · rw [if_neg h, if_neg h]
theorem wipe_set (σ : L2.St) {vs : List Nat} {i : Nat} (x : Option V) (h : i ∈ vs) : wipe (σ.set i x) vs = wipe σ vs := List.ext_getElem? fun j => by
  rw [wipe_at, wipe_at]
  by_cases hj : j ∈ vs
  · rw [if_pos hj, if_pos hj, List.getElem?_set]
    by_cases hij : i = j
    · subst hij
      rw [if_pos rfl]
      by_cases hl : i < σ.length
      · rw [if_pos hl, List.getElem?_eq_getElem hl]; rfl
      · rw [if_neg hl, List.getElem?_eq_none (by omega)]
    · rw [if_neg hij]
  · rw [if_neg hj, if_neg hj, List.getElem?_set]
    rw [if_neg (fun z : i = j => hj (by rw [← z]; exact h))]
theorem EnvR.wipe (r : EnvR Γ κ H σ env SI) (vs : List Nat) : EnvR Γ κ H (L2.wipe σ vs) (wipeE env vs) SI where
  len := by rw [wipe_length, wipeE_len]; exact r.len
  at_ := fun i d h => by
    obtain ⟨h1, h2⟩ := wipeE_some h
    obtain ⟨v, S, a, b⟩ := r.at_ i d h1
    exact ⟨v, S, by rw [wipe_at, if_neg h2]; exact a, b⟩
  dom := r.dom
/-- the slots' shared nodes when some are bound to parts of one thing -/
def setS (SI : Nat → List Addr) (is : List Nat) (S : List Addr) : Nat → List Addr := fun i => if i ∈ is then S else SI i
theorem EnvR.set1 (r : EnvR Γ κ H σ env SI) {i : Nat} {v : V} {d : D} {S' : List Addr} (q : Rep Γ κ H 0 v d [] S') (hs : ∀ a ∈ S', a ∈ SI i) : EnvR Γ κ H (σ.set i (some v)) (env.set i (some d)) SI where
  len := by rw [List.length_set, List.length_set]; exact r.len
  at_ := fun j d' h => by
    rw [List.getElem?_set] at h
    by_cases hij : i = j
    · subst hij
      rw [if_pos rfl] at h
      split at h
      · rename_i hl
        cases h
        exact ⟨v, S', by rw [List.getElem?_set_self (by rw [r.len]; exact hl)], q, hs⟩
      · cases h
    · rw [if_neg hij] at h
      obtain ⟨w, S1, a, b⟩ := r.at_ j d' h
      exact ⟨w, S1, by rw [List.getElem?_set_ne hij]; exact a, b⟩
  dom := r.dom
theorem EnvR.more (r : EnvR Γ κ H σ env SI) {SJ : Nat → List Addr} (h : ∀ i d, env[i]? = some (some d) → ∀ a ∈ SI i, a ∈ SJ i) (hd : ∀ i a, a ∈ SJ i → ∃ o, H a = some o) : EnvR Γ κ H σ env SJ :=
  ⟨r.len, fun i d e => let ⟨v, S, a, b, c⟩ := r.at_ i d e; ⟨v, S, a, b, fun x z => h i d e x (c x z)⟩, hd⟩
def gNames : List Nat → TGs
  | [] => gNil
  | i :: is => gCons (gName i) (gNames is)
def gT (K : PySem.W.Frag) : Tg → TG
  | .nm i => gName i
  | .tp is => gTup K is.length (gNames is)
theorem names_run {Q : L2.St → Hp → Prop} {vs0 : List Nat} {S : List Addr} : ∀ {is : List Nat} {xs : List D} {vs : List V} {σ : L2.St} {env : VL.Env} {O' S' : List Addr}, RepL Γ κ H 0 vs xs O' S' → xs.length = is.length → (∀ a ∈ S', a ∈ S) → (∀ i ∈ is, i ∈ vs0) → EnvR Γ κ H σ env (setS SI vs0 S) →
    (∀ σ', EnvR Γ κ H σ' ((is.zip xs).foldl (fun e p => e.set p.1 (some p.2)) env) (setS SI vs0 S) → L2.wipe σ' vs0 = L2.wipe σ vs0 → Q σ' H) → gNames is vs σ H Q
  | [], [], vs, σ, env, O', S', r, hl, hs, hi, re, k => by
    cases r
    exact ⟨rfl, k σ re rfl⟩
  | i :: is, x :: xs, vs, σ, env, O', S', r, hl, hs, hi, re, k => by
    cases r with
    | cons r1 r2 =>
      have h0 := r1.own0
      subst h0
      have hin : i ∈ vs0 := hi i List.mem_cons_self
      refine ⟨_, _, rfl, ?_⟩
      show gNames is _ _ _ _
      refine names_run r2 (by simpa using hl) (fun a h => hs a (List.mem_append_right _ h)) (fun j h => hi j (List.mem_cons_of_mem _ h)) (re.set1 (i := i) r1 fun a h => ?_) fun σ' e w => k σ' e (by rw [w, wipe_set _ _ hin])
      unfold setS
      rw [if_pos hin]
      exact hs a (List.mem_append_left _ h)
  | [], _ :: _, _, _, _, _, _, _, hl, _, _, _, _ => by simp at hl
  | _ :: _, [], _, _, _, _, _, _, hl, _, _, _, _ => by simp at hl
/-- a target takes what came -/
theorem target_run {Q : L2.St → Hp → Prop} {vs0 : List Nat} {t : Tg} {v : V} {d : D} {S S' : List Addr} {env' : VL.Env} (q : Rep Γ κ H 0 v d [] S') (hs : ∀ a ∈ S', a ∈ S) (hi : ∀ i ∈ slots t, i ∈ vs0) (re : EnvR Γ κ H σ env (setS SI vs0 S))
    (hb : bindT t d env = some env') (k : ∀ σ', EnvR Γ κ H σ' env' (setS SI vs0 S) → L2.wipe σ' vs0 = L2.wipe σ vs0 → Q σ' H) : gT Γ.K t v σ H Q := by
  cases t with
  | nm i =>
    cases hb
    have hin : i ∈ vs0 := hi i List.mem_cons_self
    refine k _ (re.set1 q fun a h => ?_) (wipe_set _ _ hin)
    unfold setS
    rw [if_pos hin]
    exact hs a h
  | tp is =>
    simp only [bindT] at hb
    cases d with
    | tup xs =>
      dsimp only at hb
      split at hb
      · rename_i hl
        cases hb
        cases q with
        | tup ha r => exact ⟨_, _, rfl, ha, by rw [r.len]; exact hl, names_run r hl hs hi re k⟩
      · cases hb
    | _ => cases hb
/-! ### the block -/
/-- the target's names -/
def tgB (N : List Str) : Tg → Expr → Bool
  | .nm i, .Name x _ => N[i]? == some x
  | .tp is, .Tuple es _ _ => decide (es.length = is.length) && (is.zip es).all fun p => match p.2 with | .Name x _ => N[p.1]? == some x | _ => false
  | _, _ => false
def ownOf (N : List Str) (is : List Nat) : List (Str × Nat) := is.map fun i => (N[i]?.getD (Str.mk #[]), i)
/-- the block's names are as they must be -/
def blkB (N : List Str) (sc scope : Scope) (own : List (Str × Nat)) : Bool :=
  scope.kind == .function && scope.names.all (fun y => scope.names.lookup y.1 == some y.2) && own.all (fun p => N[p.2]? == some p.1) &&
  scope.names.all (fun y => !(y.2 == .free) || (sc.names.lookup y.1 == some .cell || sc.names.lookup y.1 == some .free)) &&
  scope.names.all (fun y => !(y.2 == .local || y.2 == .cell) || ((own.map (·.1)).contains y.1 || !N.contains y.1))
theorem blk_ok {N : List Str} {sc scope : Scope} {own : List (Str × Nat)} (h : blkB N sc scope own = true) : BlkOk N sc scope own := by
  simp only [blkB, Bool.and_eq_true, List.all_eq_true, beq_iff_eq] at h
  obtain ⟨⟨⟨⟨h1, h2⟩, h3⟩, h4⟩, h5⟩ := h
  refine ⟨h1, h2, h3, fun y hy e => ?_, fun y hy e => ?_⟩
  · have z := h4 y hy
    rw [e] at z
    simpa using z
  · have z := h5 y hy
    have e2 : (y.2 == NameKind.local || y.2 == NameKind.cell) = true := by rcases e with e | e <;> rw [e] <;> rfl
    rw [e2] at z
    simpa using z
/-! ### targets in a context -/
def tgNames : Expr → List Str
  | .Name x _ => [x]
  | .Tuple es _ _ => es.filterMap fun e => match e with | .Name x _ => some x | _ => none
  | _ => []
theorem pgs_names {Y : Cx} (hN : Y.N.Nodup) : ∀ {is : List Nat} {es : List Expr}, es.length = is.length → (is.zip es).all (fun p => match p.2 with | .Name x _ => Y.N[p.1]? == some x | _ => false) = true →
    (∀ x ∈ es.filterMap (fun e => match e with | .Name x _ => some x | _ => none), Loc Y.env.scope x ∧ (Y.fn x = true ∨ Y.env.scope.names.lookup x = some .local)) → PGs Y es (gNames is) ∧ (assignEach es Y.env).length = is.length ∧ (assignEach es Y.env).findIdx? (·.1) = none
  | [], [], _, _, _ => ⟨pgs_nil, rfl, rfl⟩
  | i :: is, e :: es, hl, hb, hx => by
    rw [List.zip_cons_cons, List.all_cons] at hb
    obtain ⟨h1, h2⟩ := Bool.and_eq_true_iff.mp hb
    dsimp only at h1
    cases e with
    | Name x p =>
      have hx' := hx x (by rw [List.filterMap_cons]; exact List.mem_cons_self)
      obtain ⟨a, b, c⟩ := pgs_names hN (is := is) (es := es) (by simpa using hl) h2 fun y hy => hx y (by rw [List.filterMap_cons]; exact List.mem_cons_of_mem _ hy)
      refine ⟨pgs_cons (pg_name hN (beq_iff_eq.mp h1) hx'.1 hx'.2) a, ?_, ?_⟩
      · show (assignEach es Y.env).length + 1 = _
        rw [b]; rfl
      · show List.findIdx? (·.1) ((false, assign (.Name x p) Y.env) :: assignEach es Y.env) = none
        rw [List.findIdx?_cons]
        simp [c]
    | _ => cases h1
  | [], _ :: _, hl, _, _ => by simp at hl
  | _ :: _, [], hl, _, _ => by simp at hl
theorem pg_gT {Y : Cx} {t : Tg} {tg : Expr} (hc : Y.calm = true) (hN : Y.N.Nodup) (hb : tgB Y.N t tg = true) (hx : ∀ x ∈ tgNames tg, Loc Y.env.scope x ∧ (Y.fn x = true ∨ Y.env.scope.names.lookup x = some .local)) : PG Y tg (gT Y.K t) := by
  cases t with
  | nm i =>
    cases tg with
    | Name x p =>
      obtain ⟨a, b⟩ := hx x List.mem_cons_self
      exact pg_name hN (beq_iff_eq.mp hb) a b
    | _ => cases hb
  | tp is =>
    cases tg with
    | Tuple es k p =>
      obtain ⟨h1, h2⟩ := Bool.and_eq_true_iff.mp hb
      obtain ⟨a, b, c⟩ := pgs_names hN (of_decide_eq_true h1) h2 hx
      exact pg_tup hc a b c
    | _ => cases hb
/-- in a block -/
def tgOk (scope : Scope) (tg : Expr) : Bool := (tgNames tg).all fun x => scope.names.lookup x == some .local || scope.names.lookup x == some .cell
theorem pg_blk {t : Tg} {tg : Expr} {scope : Scope} (hc : X.calm = true) (hN : X.N.Nodup) (hb : tgB X.N t tg = true) (ht : tgOk scope tg = true) (s : Shared) (H : Hp) (C : Addr) (cl : List (Str × Addr)) (fp : List Addr) : PG (X.blk s H scope (compEnvC scope cl C X.env) fp) tg (gT X.K t) := by
  refine pg_gT (Y := X.blk s H scope (compEnvC scope cl C X.env) fp) hc hN hb fun x hx => ?_
  have z := List.all_eq_true.mp ht x hx
  rw [Bool.or_eq_true, beq_iff_eq, beq_iff_eq] at z
  rcases z with z | z
  · have e := lookup_relS_keep (sc := X.env.scope) (by decide) z
    exact ⟨.inl e, .inr e⟩
  · have e := lookup_relS_keep (sc := X.env.scope) (by decide) z
    exact ⟨.inr e, .inl (by show (scope.names.lookup x == some .cell) = true; rw [z]; rfl)⟩
/-! ### tests of a clause -/
theorem PTs.imp {ifs : List Expr} {t t' : TT} (h : PTs X ifs t) (i : ∀ σ H Q, t' σ H Q → t σ H Q) : PTs X ifs t' := ⟨fun pins s σ H Q I q => h.run pins s σ H Q I (i σ H Q q)⟩
theorem ts_nil : PTs X [] (tB2 (gam X) T true []) := PTs.imp pts_nil fun σ H Q ⟨κ, g, env, SI, c, r, g', b, q, k⟩ => by
  rw [evb] at q
  cases q
  exact k H κ (.refl c)
theorem ts_one (h : PT X e (tT (gam X) T m)) : PTs X [e] (tB2 (gam X) T true [m]) := PTs.imp (pts_one h) fun σ H Q ⟨κ, g, env, SI, c, r, g', b, q, k⟩ => by
  rw [evb] at q
  obtain ⟨⟨d1, g1⟩, e1, q⟩ := bnd q
  obtain ⟨b1, e2, q⟩ := bnd q
  refine ⟨κ, g, env, SI, c, r, d1, g1, b1, e1, e2, fun H' κ' s => ?_⟩
  cases b1 with
  | true =>
    simp only [beq_self_eq_true, if_true] at q
    rw [evb] at q
    cases q
    exact k H' κ' s
  | false =>
    cases q
    exact k H' κ' s
/-! ### a list comprehension -/
theorem Step.after {vs0 : List Nat} {S : List Addr} (x : Step Γ κ H SI I κ1 H1 g1 [] S) (y : Step Γ κ1 H1 (setS SI vs0 S) J κ2 H2 g2 O2 S2) : Step Γ κ H SI (I ++ J) κ2 H2 g2 O2 S2 where
  ext := x.ext.trans x.kx y.ext
  kx := x.kx.trans y.kx fun a h => x.dom h
  cr := y.cr
  nd := y.nd
  fr := fun a h => x.dom (y.fr a h)
  al := fun a h => by
    rcases y.al a h with q | ⟨i, hi, q⟩
    · exact .inl (x.dom q)
    · unfold setS at q
      split at q
      · rcases x.al a q with z | ⟨l, hl, z⟩
        · exact .inl z
        · exact .inr ⟨l, List.mem_append_left _ hl, z⟩
      · exact .inr ⟨i, List.mem_append_right _ hi, q⟩
  ap := y.ap
theorem own_slots (N : List Str) (is : List Nat) : (ownOf N is).map (·.2) = is := by
  rw [ownOf, List.map_map]
  exact List.map_id' is
theorem lc_read {t : Tg} {k : ItK} {ies mifs : List Ex} {melt : Ex} {Q : VK} (h : tX (gam X) T (.lc t k ies mifs melt) σ H Q) : tLc (tI (gam X) T k ies) (gT X.K t) (tB2 (gam X) T true mifs) (tX (gam X) T melt) (slots t) σ H Q := by
  obtain ⟨κ, g, env, SI, c, r, d, gZ, q, kk⟩ := h
  rw [ev] at q
  obtain ⟨⟨ds, g1⟩, e1, q⟩ := bnd q
  obtain ⟨xs, e2, q⟩ := bnd q
  obtain ⟨⟨zs, gE⟩, e3, q⟩ := bnd q
  dsimp only at e2 e3 q
  split at q
  case isFalse => cases q
  rename_i hz
  cases q
  refine ⟨κ, g, env, SI, c, r, ds, g1, xs, e1, e2, fun J H1 κ1 S s1 dm it L hD => ?_⟩
  have r1 := r.mono c.cl s1
  generalize hf : (fun (x : D) (g : G) => (bindT t x (wipeE env (slots t))).bind fun env' => (evb T.Φ true mifs env' g).bind fun c => if c.1 = true then (ev T.Φ melt env' c.2).map fun y => (some y.1, y.2) else some (none, c.2)) = f at e3
  have sd : ∀ i a, a ∈ setS SI (slots t) S i → ∃ o, H1 a = some o := fun i a h => by
    unfold setS at h
    split at h
    · exact dm a h
    · exact r1.dom i a h
  have rW : EnvR (gam X) κ1 H1 (L2.wipe σ (slots t)) (wipeE env (slots t)) (setS SI (slots t) S) := (r1.wipe (slots t)).more (fun i d h a z => by
    unfold setS
    rw [if_neg (wipeE_some h).2]
    exact z) sd
  have st0 : Step (gam X) κ1 H1 (setS SI (slots t) S) (nms melt) κ1 (upd H1 L (.lst [])) g1 [L] [] := (Step.refl s1.cr).new hD ⟨(fun _ h => nomatch h), (fun _ h => nomatch h)⟩
  refine ⟨fun i mm H => mm = xs.length - i ∧ i ≤ xs.length ∧ ∃ κ' g' O' S' acc accD rest, Step (gam X) κ1 H1 (setS SI (slots t) S) (nms melt) κ' H g' (L :: O') S' ∧ H L = some (.lst acc) ∧ L ∉ κ' ∧ RepL (gam X) κ' H (own T.rl melt) acc accD O' S' ∧
    lcLoop f (xs.drop i) g' = some (rest, gZ) ∧ accD ++ rest = zs, ⟨xs.length, by simp, Nat.zero_le _, κ1, g1, [], [], [], [], zs, st0, upd_same, s1.cl.notin hD, .nil, e3, rfl⟩, ?_⟩
  rintro i mm H2 ⟨rfl, hle, κ2, g2, O2, S2, acc, accD, rest, st, hDl, hDk, racc, hl, htot⟩
  have kp : Keeps κ1 H1 κ2 H2 (fun a => a ∈ S) := ⟨fun a o e n _ => st.ext a o e n, st.kx, fun a h => st.dom h⟩
  by_cases hlt : i < xs.length
  case neg =>
    have hi' : i = xs.length := by omega
    subst hi'
    rw [List.drop_length] at hl
    cases hl
    rw [List.append_nil] at htot
    subst htot
    refine .inl ⟨(it κ2 H2 kp xs.length).2 (Nat.le_refl _), kk _ _ _ _ _ (s1.after st) ?_⟩
    rw [own, Nat.add_comm]
    exact .lst hDl hDk racc
  case pos =>
    refine .inr ?_
    have hx : xs[i]? = some xs[i] := List.getElem?_eq_getElem hlt
    obtain ⟨hgo, hy⟩ := (it κ2 H2 kp i).1 _ hx
    rw [List.drop_eq_getElem_cons hlt] at hl
    simp only [lcLoop] at hl
    obtain ⟨⟨y, g3⟩, f1, hl⟩ := bnd hl
    obtain ⟨⟨zs', gE'⟩, f2, f3⟩ := mpd hl
    dsimp only at f2 f3
    have f1' := f1
    rw [← hf] at f1'
    obtain ⟨env', b1, b2⟩ := bnd f1'
    obtain ⟨⟨b, gb⟩, b3, b4⟩ := bnd b2
    dsimp only at b4
    refine ⟨hgo, fun H' => ∃ m', m' < xs.length - i ∧ _, fun H' h => h, fun x H3 hyl => ?_⟩
    obtain ⟨gr, S', qx, hS'⟩ := hy x H3 hyl
    have dmA : Dm κ2 H2 (L :: O2) S2 := (racc.dom st.cl).own hDl hDk
    have st3 : Step (gam X) κ1 H1 (setS SI (slots t) S) (nms melt) κ2 H3 g2 (L :: O2) S2 ∧ H3 L = some (.lst acc) ∧ RepL (gam X) κ2 H3 (own T.rl melt) acc accD O2 S2 := by
      rcases gr with rfl | ⟨p, vs, hp, rfl⟩
      · exact ⟨st, hDl, racc⟩
      · exact ⟨st.put hp, by rw [upd_ne (ne_of_none hDl hp)]; exact hDl, racc.upd st.cl hp⟩
    obtain ⟨st3, hD3, racc3⟩ := st3
    refine target_run (Γ := gam X) (SI := SI) qx hS' (fun _ h => h) (rW.mono s1.cl st3) b1 fun σ' re' hw => ⟨by rw [hw, wipe_idem], κ2, g2, env', _, st3.cr, re', gb, b, b3, fun H4 κ4 s4 => ?_⟩
    have dm3 : Dm κ2 H3 (L :: O2) S2 := (racc3.dom st3.cl).own hD3 hDk
    have st4 := st3.trans s4 dm3 sd
    simp only [List.append_nil] at st4
    have hD4 : H4 L = some (.lst acc) := s4.ext L _ hD3 hDk
    have hk4 : L ∉ κ4 := s4.kx.notin hD3 hDk
    have racc4 := racc3.mono s4.ext st3.cl s4.kx
    cases b with
    | false =>
      simp only [Bool.false_eq_true, if_false] at b4 ⊢
      cases b4
      cases f3
      exact ⟨xs.length - (i + 1), by omega, rfl, hlt, κ4, _, O2, S2, acc, accD, zs', st4, hD4, hk4, racc4, f2, htot⟩
    | true =>
      simp only [if_true] at b4 ⊢
      obtain ⟨⟨dy, gy⟩, b5, b6⟩ := mpd b4
      cases b6
      cases f3
      refine ⟨κ4, gb, env', _, s4.cr, re'.mono st3.cl s4, dy, gy, b5, fun vy H5 κ5 Oy Sy s5 qy => ⟨acc, s5.ext L _ hD4 hk4, ?_, ?_⟩⟩
      · have e := racc.len
        have e' : zs.length ≤ sizeLine := sz_line hz
        rw [← htot, List.length_append, List.length_cons] at e'
        omega
      · have dm4 : Dm κ4 H4 (L :: O2) S2 := (racc4.dom s4.cl).own hD4 hk4
        have st5 := (st4.trans s5 dm4 sd).names (J := nms melt) fun i h => by
          rcases List.mem_append.mp h with h | h
          · exact h
          · exact h
        have hD5 := s5.ext L _ hD4 hk4
        have hk5 := s5.kx.notin hD4 hk4
        have hm : ∀ u, H5 L = some u → imm u = false := fun u h => by rw [hD5] at h; cases h; rfl
        have kw := Keeps.upd (κ := κ5) (o := .lst (acc ++ [vy])) hm
        have racc5 := racc4.mono s5.ext s4.cl s5.kx
        have nd5 := st5.nd
        have ap5 := st5.ap
        have hno : ∀ a ∈ O2 ++ Oy, a ≠ L := fun a h z => by
          subst z
          exact (List.nodup_cons.mp (show (a :: (O2 ++ Oy)).Nodup from nd5)).1 h
        have hns : ∀ a ∈ S2 ++ Sy, a ≠ L := fun a h z => by
          subst z
          exact ap5 a h (by simp)
        refine ⟨xs.length - (i + 1), by omega, rfl, hlt, κ5, gy, O2 ++ (Oy ++ []), S2 ++ (Sy ++ []), acc ++ [vy], accD ++ [dy], zs', ?_, upd_same, hk5, ?_, f2, by rw [List.append_assoc]; exact htot⟩
        · rw [List.append_nil, List.append_nil]
          exact st5.write (by simp) hm hk5
        · exact (RepL.away kw s5.cl racc5 (app_l hno) (app_l hns)).append (.cons (Rep.away kw s5.cl qy (app_r hno) (app_r hns)) .nil)
theorem c_lc {elt tg iter : Expr} {ifs : List Expr} {scope : Scope} {t : Tg} {k : ItK} {ies mifs : List Ex} {melt : Ex} (hc : X.calm = true) (hN : X.N.Nodup) (hi : PI X tg iter (tI (gam X) T k ies)) (ok : BlkOk X.N X.env.scope scope (ownOf X.N (slots t)))
    (hg : ∀ (s : Shared) (H : Hp) (C : Addr) (cl : List (Str × Addr)) (fp : List Addr), PG (X.blk s H scope (compEnvC scope cl C X.env) fp) tg (gT X.K t))
    (ht : ∀ (s : Shared) (H : Hp) (C : Addr) (cl : List (Str × Addr)) (fp : List Addr), PTs (X.blk s H scope (compEnvC scope cl C X.env) fp) ifs (tB2 (gam X) T true mifs))
    (he : ∀ (s : Shared) (H : Hp) (C : Addr) (cl : List (Str × Addr)) (fp : List Addr), PE (X.blk s H scope (compEnvC scope cl C X.env) fp) elt (tX (gam X) T melt)) (hs : ∀ x, foldedSetIterable iter X.env x = pure x) :
    PE X (.ListComp elt [⟨tg, iter, ifs, 0⟩] scope pos) (tX (gam X) T (.lc t k ies mifs melt)) :=
  PE.imp (pe_lc hc hN hi ok hg ht he hs) fun σ H Q h => by rw [own_slots]; exact lc_read h
end
end VL
/-! V14: choices, calls of defs. -/
namespace VL
open PySem L2 PyProof.Rows
section
variable {Γ : Gam} {T : Tab} {κ κ1 κ2 κ3 : List Addr} {H H1 H2 H3 : Hp} {g g1 g2 : G} {SI SJ : Nat → List Addr} {I J : List Nat} {O1 O2 S1 S2 O S : List Addr} {σ : L2.St} {env : VL.Env} {n : Nat} {X : Cx} {e e' : Expr} {es : List Expr} {m m' : Ex} {ms : List Ex} {pos : Pos} {F F' : Addr → Prop}
theorem c_not (h : PE X e (tX (gam X) T m)) : PE X (.UnaryOp .Not e pos) (tX (gam X) T (.not m)) := by
  refine ⟨fun pins s σ H Q I0 ⟨κ, g, env, SI, c, r, d, g', q, k⟩ => ?_⟩
  rw [ev] at q
  obtain ⟨⟨d1, g1⟩, e1, q⟩ := bnd q
  obtain ⟨b, e2, q⟩ := mpd q
  cases q
  refine UnaryOp_ (thn (h.run pins s σ H _ I0 (run1 c r e1 fun v H1 κ1 S s1 q1 =>
    (⟨κ1, S, s1, q1⟩ : ∃ κ1 S, Step (gam X) κ H SI (nms m) κ1 H1 g1 [] S ∧ Rep (gam X) κ1 H1 0 v d1 [] S))) fun u s1 ⟨x, H1, I1, rx, κ1, S, st, q1⟩ => ?_)
  exact PyProof.Rows.not_of (thn (truR pins s1 σ H1 x u (fun c H2 => c = b ∧ H2 = H1) I1 rx ⟨κ1, d1, S, b, q1, e2, rfl, rfl⟩) fun c s2 ⟨H2, I2, ec, eh⟩ => by
    subst ec eh
    exact ⟨.bl (!c), H2, I2, rfl, k _ _ _ _ _ st.bare .bl⟩)
theorem c_ite {ec : Expr} {mc : Ex} (hc : PT X ec (tT (gam X) T mc)) (h : PE X e (tX (gam X) T m)) (h' : PE X e' (tX (gam X) T m')) : PE X (.IfExp ec e e' pos) (tX (gam X) T (.ite mc m m')) :=
  PE.imp (pe_ifExp hc h h') fun σ H Q ⟨κ, g, env, SI, c, r, d, g', q, k⟩ => by
    rw [ev] at q
    obtain ⟨⟨d1, g1⟩, e1, q⟩ := bnd q
    obtain ⟨b, e2, q⟩ := bnd q
    refine ⟨κ, g, env, SI, c, r, d1, g1, b, e1, e2, fun H1 κ1 s1 => ?_⟩
    cases b with
    | true =>
      refine ⟨κ1, g1, env, SI, s1.cr, r.mono c.cl s1, d, g', q, fun v H' κ' O S s q1 => ?_⟩
      obtain ⟨O', S', q', l⟩ := Rep.less (own T.rl (.ite mc m m')) q1 (by rw [own]; exact Nat.min_le_left _ _)
      have st := (s1.trans s ⟨(fun _ h => nomatch h), (fun _ h => nomatch h)⟩ (fun i a h => r.dom i a h)).sub l
      exact k v H' κ' O' S' (st.names fun i h => List.mem_append_left _ h) q'
    | false =>
      refine ⟨κ1, g1, env, SI, s1.cr, r.mono c.cl s1, d, g', q, fun v H' κ' O S s q1 => ?_⟩
      obtain ⟨O', S', q', l⟩ := Rep.less (own T.rl (.ite mc m m')) q1 (by rw [own]; exact Nat.min_le_right _ _)
      have st := (s1.trans s ⟨(fun _ h => nomatch h), (fun _ h => nomatch h)⟩ (fun i a h => r.dom i a h)).sub l
      exact k v H' κ' O' S' (st.names fun i h => List.mem_append_right _ h) q'
/-- and, or: the operand that settles it -/
def tO (Γ : Gam) (T : Tab) (isAnd : Bool) (ms : List Ex) : TE := fun σ H Q => ∃ κ g env SI, CellR Γ κ H g ∧ EnvR Γ κ H σ env SI ∧ ∃ d g', evo T.Φ isAnd ms env g = some (d, g') ∧
  ∀ v H' κ' O S, Step Γ κ H SI (nmss ms) κ' H' g' O S → Rep Γ κ' H' (owns T.rl ms) v d O S → Q v H'
theorem o_one {isAnd : Bool} (h : PE X e (tX (gam X) T m)) : PE X (.BoolOp (opL isAnd) [e] pos) (tO (gam X) T isAnd [m]) :=
  PE.imp (pe_one h) fun σ H Q ⟨κ, g, env, SI, c, r, d, g', q, k⟩ => by
    rw [evo] at q
    obtain ⟨⟨d1, g1⟩, e1, q⟩ := bnd q
    cases q
    refine ⟨κ, g, env, SI, c, r, _, _, e1, fun v H' κ' O S s q1 => ?_⟩
    obtain ⟨O', S', q', l⟩ := Rep.less (owns T.rl [m]) q1 (by rw [owns]; exact Nat.min_le_left _ _)
    exact k v H' κ' O' S' ((s.sub l).names fun i h => by rw [nmss]; exact List.mem_append_left _ h) q'
theorem o_cons {isAnd : Bool} (h : PE X e (tX (gam X) T m)) (h' : PE X (.BoolOp (opL isAnd) (e' :: es) pos) (tO (gam X) T isAnd (m' :: ms))) : PE X (.BoolOp (opL isAnd) (e :: e' :: es) pos) (tO (gam X) T isAnd (m :: m' :: ms)) := by
  refine ⟨fun pins s σ H Q I0 ⟨κ, g, env, SI, c, r, d, g', q, k⟩ => ?_⟩
  rw [evo] at q
  obtain ⟨⟨d1, g1⟩, e1, q⟩ := bnd q
  dsimp only at q
  obtain ⟨b, e2, q⟩ := bnd q
  have first := h.run pins s σ H (fun v H1 => ∃ κ1 O S, Step (gam X) κ H SI (nms m) κ1 H1 g1 O S ∧ Rep (gam X) κ1 H1 (own T.rl m) v d1 O S) I0 ⟨κ, g, env, SI, c, r, d1, g1, e1, fun v H' κ' O S s1 q1 => ⟨κ', O, S, s1, q1⟩⟩
  have fin : ∀ {s2 : Shared} {u : Value} {x : V} {H1 : Hp} {κ1 O S : List Addr}, Inv X pins σ H1 s2 → L2.RelV x u → Step (gam X) κ H SI (nms m) κ1 H1 g1 O S → Rep (gam X) κ1 H1 (own T.rl m) x d1 O S → some (d1, g1) = some (d, g') → EP X pins σ Q u s2 := fun {s2 u x H1 κ1 O S} I2 rx st q1 e => by
    cases e
    obtain ⟨O', S', q', l⟩ := Rep.less (owns T.rl (m :: m' :: ms)) q1 (by rw [owns]; exact Nat.min_le_left _ _)
    exact ⟨x, H1, I2, rx, k x H1 κ1 O' S' ((st.sub l).names fun i h => by rw [nmss]; exact List.mem_append_left _ h) q'⟩
  have more : ∀ {s2 : Shared} {H1 : Hp} {κ1 O S : List Addr}, Inv X pins σ H1 s2 → Step (gam X) κ H SI (nms m) κ1 H1 g1 O S → evo T.Φ isAnd (m' :: ms) env g1 = some (d, g') → wpAny (model X.prog X.w) X.A (eval (.BoolOp (opL isAnd) (e' :: es) pos) X.env) (EP X pins σ Q) X.xe s2 := fun {s2 H1 κ1 O S} I2 st e => by
    have st0 : Step (gam X) κ H SI [] κ1 H1 g1 [] [] := (st.bare (J := [])).sub ⟨List.nil_sublist _, fun _ _ h => .inl h⟩
    refine h'.run pins s2 σ H1 Q I2 ⟨κ1, g1, env, SI, st0.cr, r.mono c.cl st0, d, g', e, fun v H' κ' O S s q1 => ?_⟩
    obtain ⟨O', S', q', l⟩ := Rep.less (owns T.rl (m :: m' :: ms)) q1 (by rw [owns]; exact Nat.min_le_right _ _)
    have st2 := (st0.trans s ⟨(fun _ h => nomatch h), (fun _ h => nomatch h)⟩ (fun i a h => r.dom i a h)).sub l
    exact k v H' κ' O' S' (st2.names fun i h => by rw [nmss]; exact List.mem_append_right _ h) q'
  cases isAnd with
  | true =>
    refine BoolOp_and (thn first fun u s1 ⟨x, H1, I1, rx, κ1, O, S, st, q1⟩ => ?_)
    obtain ⟨O', S', q0, l⟩ := Rep.less 0 q1 (Nat.zero_le _)
    cases q0.own0
    refine thn (truR pins s1 σ H1 x u (fun c H2 => c = b ∧ H2 = H1) I1 rx ⟨κ1, d1, S', b, q0, e2, rfl, rfl⟩) fun c s2 ⟨H2, I2, ec, eh⟩ => ?_
    subst ec eh
    cases c with
    | true => exact more I2 st q
    | false => exact fin I2 rx st q1 q
  | false =>
    refine BoolOp_or (thn first fun u s1 ⟨x, H1, I1, rx, κ1, O, S, st, q1⟩ => ?_)
    obtain ⟨O', S', q0, l⟩ := Rep.less 0 q1 (Nat.zero_le _)
    cases q0.own0
    refine thn (truR pins s1 σ H1 x u (fun c H2 => c = b ∧ H2 = H1) I1 rx ⟨κ1, d1, S', b, q0, e2, rfl, rfl⟩) fun c s2 ⟨H2, I2, ec, eh⟩ => ?_
    subst ec eh
    cases c with
    | true => exact fin I2 rx st q1 q
    | false => exact more I2 st q
theorem c_orv {isAnd : Bool} (h : PE X e (tO (gam X) T isAnd ms)) : PE X e (tX (gam X) T (.orv isAnd ms)) :=
  PE.imp h fun σ H Q ⟨κ, g, env, SI, c, r, d, g', q, k⟩ => ⟨κ, g, env, SI, c, r, d, g', by rw [ev] at q; exact q, k⟩
/-! ### calls of defs -/
theorem evs_len {Φ : Phi} : ∀ {ms : List Ex} {env : VL.Env} {g : G} {ds : List D} {g' : G}, evs Φ ms env g = some (ds, g') → ds.length = ms.length
  | [], env, g, ds, g', h => by rw [evs] at h; cases h; rfl
  | m :: ms, env, g, ds, g', h => by
    rw [evs] at h
    obtain ⟨⟨d1, g1⟩, e1, h⟩ := bnd h
    obtain ⟨⟨ds2, g2⟩, e2, h⟩ := mpd h
    cases h
    rw [List.length_cons, List.length_cons, evs_len e2]
/-- what a def promises: n parameters -/
def spV (Γ : Gam) (T : Tab) (f : Str) (n : Nat) : Sp := fun vs H Q _ => vs.length = n ∧ ∃ κ g ds S, CellR Γ κ H g ∧ RepL Γ κ H 0 vs ds [] S ∧ ∃ d g', T.Φ f ds g = some (d, g') ∧
  ∀ v H' κ' O S', Step Γ κ H (fun _ => S) [0] κ' H' g' O S' → Rep Γ κ' H' (T.rl f) v d O S' → Q v H'
theorem Step.call (x : Step Γ κ H SI I κ1 H1 g1 [] S) (y : Step Γ κ1 H1 (fun _ => S) J κ2 H2 g2 O2 S2) : Step Γ κ H SI I κ2 H2 g2 O2 S2 where
  ext := x.ext.trans x.kx y.ext
  kx := x.kx.trans y.kx fun a h => x.dom h
  cr := y.cr
  nd := y.nd
  fr := fun a h => x.dom (y.fr a h)
  al := fun a h => by
    rcases y.al a h with q | ⟨i, hi, q⟩
    · exact .inl (x.dom q)
    · exact x.al a q
  ap := y.ap
/-- a def that may be called -/
def CalOk (X : Cx) (T : Tab) (x : Str) (n : Nat) : Prop := ∃ (k : Nat) (f : Addr) (fd : FuncData) (ps : List Str), Room k X.A ∧ X.A.guards = some [] ∧ FnOkG X.prog X.w X.K X.mg X.base CX0 k f fd ps (spV (gam X) T x n) ∧ X.mg x = some (.ref f) ∧ PySem.W.keepIn X.K (.ref f) = true ∧ Binds X.K fd ps []
theorem c_cal {f : Str} {p : Pos} (hf : CalOk X T f ms.length) (hg : Gl X f) (hdb : (f == ("__debug__" : Str)) = false) (hs : star e = false) (hl : es.all (fun e => !star e) = true) (ha : PA X (e :: es) (tXs (gam X) T ms)) :
    PE X (.Call (.Name f p) (e :: es) [] pos) (tX (gam X) T (.cal f ms)) := by
  obtain ⟨k0, fa, fd, ps, hr, hgu, F, hm, kp, b⟩ := hf
  refine PE.imp (pe_callG F hr hgu hg hm kp b .nil pass0 ha hdb (star_each hs) (star_all hl)) fun σ H Q ⟨κ, g, env, SI, c, r, d, g', q, k⟩ => ?_
  rw [ev] at q
  obtain ⟨⟨ds, g1⟩, e1, q⟩ := bnd q
  refine runs c r e1 fun vs H1 κ1 S s1 q1 => ?_
  show spV (gam X) T f ms.length (vs ++ []) H1 Q E0
  rw [List.append_nil]
  exact ⟨by rw [q1.len]; exact evs_len e1, κ1, g1, ds, S, s1.cr, q1, d, g', q, fun v H' κ' O S' st rp => k v H' κ' O S' (s1.call st) rp⟩
theorem c_cal0 {f : Str} {p : Pos} (hf : CalOk X T f 0) (hg : Gl X f) (hdb : (f == ("__debug__" : Str)) = false) : PE X (.Call (.Name f p) [] [] pos) (tX (gam X) T (.cal f [])) := by
  obtain ⟨k0, fa, fd, ps, hr, hgu, F, hm, kp, b⟩ := hf
  refine PE.imp (pe_callG0 F hr hgu hg hm kp b .nil pass0 hdb) fun σ H Q ⟨κ, g, env, SI, c, r, d, g', q, k⟩ => ?_
  rw [ev] at q
  obtain ⟨⟨ds, g1⟩, e1, q⟩ := bnd q
  rw [evs] at e1
  cases e1
  exact ⟨rfl, κ, g, [], [], c, .nil, d, g', q, fun v H' κ' O S' st rp => k v H' κ' O S' ((Step.refl c).call st) rp⟩
end
end VL
/-! V14e: own errors and one-pair dicts in expressions. -/
namespace VL
open PySem L2 PyProof.Rows VE
section
variable {Γ : Gam} {T : Tab} {κ κ1 κ2 : List Addr} {H H1 H2 : Hp} {g g1 g2 : G} {SI : Nat → List Addr} {I J : List Nat} {O1 O2 S1 S2 O S : List Addr} {σ : L2.St} {env : Env} {n : Nat} {X : Cx} {e e' : Expr} {es : List Expr} {m m' : Ex} {ms : List Ex} {pos p p2 : Pos} {C f : Addr} {fd : FuncData} {x c : Str} {k : Nat}
theorem Step.names0 (x : Step Γ κ H SI I κ1 H1 g1 O []) : Step Γ κ H SI J κ1 H1 g1 O [] := ⟨x.ext, x.kx, x.cr, x.nd, x.fr, (fun _ h => nomatch h), (fun _ h => nomatch h)⟩
theorem ext_putE {a dx : Addr} {y : V} (h1 : H a = none) (h2 : H dx = none) : Ext κ H (putE H a dx C y) := fun b u e _ => by
  unfold putE
  rw [upd_ne (ne_of_none e h1), upd_ne (ne_of_none e h2)]; exact e
theorem putE_a {a dx : Addr} {y : V} : putE H a dx C y a = some (exo a C (some dx)) := upd_same
theorem putE_d {a dx : Addr} {y : V} (h : dx ≠ a) : putE H a dx C y dx = some (exd dx [("value", y)]) := by unfold putE; rw [upd_ne h, upd_same]
theorem Step.err (st : Step Γ κ H SI I κ1 H1 g1 [] S) {a dx : Addr} {y : V} (h1 : H1 a = none) (h2 : H1 dx = none) : Step Γ κ H SI I κ1 (putE H1 a dx C y) g1 [] (a :: dx :: S) where
  ext := fun b u e n => (ext_putE (κ := []) h1 h2) b u (st.ext b u e n) (by simp)
  kx := st.kx
  cr := st.cr.ext (ext_putE h1 h2)
  nd := st.nd
  fr := st.fr
  al := fun b z => by
    rcases List.mem_cons.mp z with rfl | z
    · exact .inl (st.dom h1)
    · rcases List.mem_cons.mp z with rfl | z
      · exact .inl (st.dom h2)
      · exact st.al b z
  ap := fun b _ z => nomatch z
theorem rep_err (c' : Cl κ H) {a dx : Addr} {y : V} {d : D} (h1 : H a = none) (h2 : H dx = none) (hd : dx ≠ a) (hm : Γ.mg c = some (.ref C)) (r : Rep Γ κ H 0 y d [] S) : Rep Γ κ (putE H a dx C y) n (.ref a) (.exn c [d]) [] (a :: dx :: S) :=
  .exn1 putE_a (putE_d hd) hm (r.mono (ext_putE h1 h2) c' .refl)
theorem err_run {Q : VK} (hm : X.mg x = some (.ref C)) (r : EnvR (gam X) κ H σ env SI) (cr : CellR (gam X) κ H g) {d : D} (e1 : ev T.Φ m env g = some (d, g1))
    (k : ∀ v H' κ' O S, Step (gam X) κ H SI (nmss [m]) κ' H' g1 O S → Rep (gam X) κ' H' (own T.rl (.err x [m])) v (.exn x [d]) O S → Q v H') : tMk C (tX (gam X) T m) σ H Q := by
  refine run1 cr r e1 fun y H1 κ1 S st q a dx h1 h2 hd => k _ _ κ1 [] _ ((st.names fun i hi => ?_).err h1 h2) (rep_err st.cl h1 h2 hd hm q)
  rw [nmss, nmss]; exact List.mem_append_left _ hi
theorem c_err1 (t : ErrM X.prog X.K X.mg C f fd) (hr : Room (k + 1) X.A) (hg : Gl X x) (hm : X.mg x = some (.ref C)) (he : PE X e (tX (gam X) T m)) (hs : star e = false) (hdb : (x == ("__debug__" : Str)) = false) :
    PE X (.Call (.Name x p) [e] [] pos) (tX (gam X) T (.err x [m])) := PE.imp (pe_mk1 t hr hg hm he (star_each hs) hdb) fun σ H Q ⟨κ, g, env, SI, c, r, d, g', q, k⟩ => by
  rw [ev] at q
  obtain ⟨⟨ds, g1⟩, e1, q⟩ := bnd q
  rw [evs] at e1
  obtain ⟨⟨d1, g2⟩, e2, e3⟩ := bnd e1
  rw [evs] at e3
  cases e3
  cases q
  exact err_run hm r c e2 k
theorem c_errk {kpos : Pos} (t : ErrM X.prog X.K X.mg C f fd) (hr : Room (k + 1) X.A) (hg : Gl X x) (hm : X.mg x = some (.ref C)) (he : PE X e (tX (gam X) T m)) (hdb : (x == ("__debug__" : Str)) = false) :
    PE X (.Call (.Name x p) [] [⟨some "value", e, kpos⟩] pos) (tX (gam X) T (.err x [m])) := PE.imp (pe_mkk t hr hg hm he hdb) fun σ H Q ⟨κ, g, env, SI, c, r, d, g', q, k⟩ => by
  rw [ev] at q
  obtain ⟨⟨ds, g1⟩, e1, q⟩ := bnd q
  rw [evs] at e1
  obtain ⟨⟨d1, g2⟩, e2, e3⟩ := bnd e1
  rw [evs] at e3
  cases e3
  cases q
  exact err_run hm r c e2 k
theorem c_err0 (t : ErrM X.prog X.K X.mg C f fd) (hr : Room (k + 1) X.A) (hg : Gl X x) (hm : X.mg x = some (.ref C)) (hdb : (x == ("__debug__" : Str)) = false) :
    PE X (.Call (.Name x p) [] [] pos) (tX (gam X) T (.err x [])) := PE.imp (pe_mk0 t hr hg hm hdb) fun σ H Q ⟨κ, g, env, SI, c, r, d, g', q, k⟩ => by
  rw [ev] at q
  obtain ⟨⟨ds, g1⟩, e1, q⟩ := bnd q
  rw [evs] at e1
  cases e1
  cases q
  exact fun a dx h1 h2 hd => k _ _ κ [] _ ((Step.refl c).err h1 h2) (rep_err c.cl h1 h2 hd hm .non)
theorem c_exb (q0 : PySem.W.excIn X.K C He.veBase "ValueError.__new__" = true) (hm : X.mg x = some (.ref C)) (kC : PySem.W.keepIn X.K (.ref C) = true) (hg : Gl X x) (hdb : (x == ("__debug__" : Str)) = false) :
    PE X (.Call (.Name x p) [] [] pos) (tX (gam X) T (.exb x)) := PE.imp (pe_mkb F.excBase_ValueError q0 hm kC hg hdb) fun σ H Q ⟨κ, g, env, SI, c, r, d, g', q, k⟩ => by
  rw [ev] at q
  cases q
  exact fun a h => k _ _ κ [] [a] ⟨ext_upd h, .refl, c.ext (ext_upd h), List.nodup_nil, (fun _ z => nomatch z), (fun b z => by
    rcases List.mem_singleton.mp z with rfl
    exact .inl h), (fun _ _ z => nomatch z)⟩ (.exn0 upd_same hm)
/-- what isinstance(e, c) wants of the written part, e of a class named in ns -/
def IsxK (K : PySem.W.Frag) (mg : Str → Option Value) (ns : List Str) (c : Str) : Prop := ∃ (cv : V) (cu : Value), RelV cv cu ∧ (∀ u, RelV cv u → u = cu) ∧ ((mg c = some cu ∧ c ≠ "__debug__") ∨ (mg c = none ∧ bootBuiltins c = some cu ∧ c ≠ "__name__" ∧ c ≠ "__debug__")) ∧
  ∀ c', ns.contains c' = true → ∀ C', mg c' = some (.ref C') → ExcC K C' ∧ PySem.W.kitOne K (.ref C') cu = some (excSub c' c)
abbrev IsxOk (X : Cx) (ns : List Str) (c : Str) : Prop := IsxK X.K X.mg ns c
theorem c_isx {ns : List Str} (ok : IsxOk X ns c) (hm : X.mg "isinstance" = none) (hgi : Gl X "isinstance") (hgc : Gl X c) (he : PE X e (tX (gam X) T m)) (hs : star e = false) :
    PE X (.Call (.Name "isinstance" p) [e, .Name c p2] [] pos) (tX (gam X) T (.isx ns m c)) := by
  obtain ⟨cv, cu, ru, hu, hc, hk⟩ := ok
  have pc : PE X (.Name c p2) (tC cv) := by
    rcases hc with ⟨h, hd⟩ | ⟨h, hb, hn, hd⟩
    · exact pe_glob hgc h ru (by simpa using hd)
    · exact pe_bltn hgc h hb ru hn (by simpa using hd)
  refine PE.imp (pe_callB call_isX hgi hm (by decide +kernel) (pa_cons he (pa_cons pc pa_nil (star_each rfl)) (star_each hs)) (by decide) (by decide) (star_each hs) (star_all (by rfl))) fun σ H Q ⟨κ, g, env, SI, c, r, d, g', q, k⟩ => ?_
  rw [ev] at q
  obtain ⟨⟨d1, g1⟩, e1, q⟩ := bnd q
  obtain ⟨b, e2, q⟩ := mpd q
  cases q
  refine run1 c r e1 fun y H1 κ1 S st q => ?_
  show rIsX X.K [y, cv] H1 Q
  cases q with
  | exn0 h1 hm1 =>
    have e2' : (if ns.contains _ then some (excSub _ _) else none) = some b := e2
    split at e2'
    · rename_i hns
      cases e2'
      obtain ⟨h3, h4⟩ := hk _ hns _ hm1
      exact ⟨_, _, cv, cu, _, rfl, .inl h1, h3, hu, h4, k _ _ κ1 [] [] ((st.few (S' := []) (fun _ z => nomatch z)).names0) .bl⟩
    · cases e2'
  | exn1 h1 h2 hm1 r1 =>
    have e2' : (if ns.contains _ then some (excSub _ _) else none) = some b := e2
    split at e2'
    · rename_i hns
      cases e2'
      obtain ⟨h3, h4⟩ := hk _ hns _ hm1
      exact ⟨_, _, cv, cu, _, rfl, .inr ⟨_, _, h1, h2⟩, h3, hu, h4, k _ _ κ1 [] [] ((st.few (S' := []) (fun _ z => nomatch z)).names0) .bl⟩
    · cases e2'
  | _ => cases e2
/-- .. for e.value -/
def AtvK (K : PySem.W.Frag) (mg : Str → Option Value) (ns : List Str) : Prop := ∀ c', ns.contains c' = true → ∀ C', mg c' = some (.ref C') → XfC K C' ∧ PySem.W.findIn K (.ref C') "value" = some none
abbrev AtvOk (X : Cx) (ns : List Str) : Prop := AtvK X.K X.mg ns
theorem c_atv {ns : List Str} (ok : AtvOk X ns) (he : PE X e (tX (gam X) T m)) (hb : attributeBase e "value" X.env (eval e X.env) = eval e X.env) :
    PE X (.Attribute e "value" pos) (tX (gam X) T (.atv ns m)) := PE.imp (pe_ev hb he) fun σ H Q ⟨κ, g, env, SI, c, r, d, g', q, k⟩ => by
  rw [ev] at q
  obtain ⟨⟨d1, g1⟩, e1, q⟩ := bnd q
  obtain ⟨b, e2, q⟩ := mpd q
  cases q
  refine run1 c r e1 fun y H1 κ1 S st q => ?_
  cases q with
  | exn1 h1 h2 hm1 r1 =>
    simp only [atvD] at e2
    split at e2
    · rename_i hns
      cases e2
      obtain ⟨h3, h4⟩ := ok _ hns _ hm1
      have := r1.own0
      refine ⟨_, _, _, _, _, rfl, h3, h4, h1, h2, rfl, k _ _ κ1 [] _ (st.few fun a z => List.mem_cons_of_mem _ (List.mem_cons_of_mem _ z)) r1⟩
    · cases e2
  | _ => cases e2
/-- {k: v} -/
theorem c_dic1 {ek e2 : Expr} {mk mv : Ex} (hk : PE X ek (tX (gam X) T mk)) (hv : PE X e2 (tX (gam X) T mv)) : PE X (.Dict [some ek] [e2] pos) (tX (gam X) T (.dic false [mk, mv])) :=
  PE.imp (pe_disp (pps_cons hk hv pps_nil) rfl rfl (by simp) (by simp)) fun σ H Q ⟨κ, g, env, SI, c, r, d, g', q, k⟩ p hp => by
  rw [ev] at q
  obtain ⟨⟨ds, g3⟩, e1, q⟩ := bnd q
  rw [evs] at e1
  obtain ⟨⟨dk, g1⟩, ek1, e1⟩ := bnd e1
  rw [evs] at e1
  obtain ⟨⟨ds2, g3'⟩, e1, e3⟩ := mpd e1
  obtain ⟨⟨dv, g2⟩, ev1, e1⟩ := bnd e1
  rw [evs] at e1
  cases e1
  cases e3
  obtain ⟨kvs, ep, q⟩ := bnd q
  have ep' : (dk.key.bind fun kk => (pairUp []).map fun t => (kk, dv) :: t) = some kvs := ep
  obtain ⟨kk, ekk, ep'⟩ := Option.bind_eq_some_iff.mp ep'
  cases ep'
  dsimp only at q
  split at q
  case isFalse => cases q
  rename_i hfit
  cases q
  have hpk : p ∉ κ := c.cl.notin hp
  have s0 : Step (gam X) κ H SI [] κ (upd H p (.dK [])) g [] [] := (Step.refl c).put hp
  have r0 := r.mono c.cl s0
  have hP : upd H p (.dK []) p = some (.dK []) := upd_same
  refine ⟨κ, g, env, SI, s0.cr, r0, dk, g1, ek1, fun x H1 κ1 O1 S1 st1 q1 => ⟨κ1, g1, env, SI, st1.cr, r0.mono s0.cl st1, dv, _, ev1, fun y H2 κ2 O2 S2 st2 q2 => ?_⟩⟩
  have p1 : H1 p = some (.dK []) := st1.ext p _ hP hpk
  have hpk1 : p ∉ κ1 := st1.kx.notin hP hpk
  have p2 : H2 p = some (.dK []) := st2.ext p _ p1 hpk1
  have hpk2 : p ∉ κ2 := st2.kx.notin p1 hpk1
  have hf1 : keyFits false kk = true := by simpa using (Bool.and_eq_true_iff.mp hfit).1
  obtain ⟨lk, l1, rfl⟩ := leaf_key hf1 (q1.keyR kk ekk)
  refine ⟨p2, [(lk, y)], rfl, (by simp), ?_⟩
  obtain ⟨O', S', q', ls⟩ := q2.less (min (own T.rl mk) (min (own T.rl mv) 90)) (by omega)
  have hO : ∀ a ∈ O', a ≠ p := fun a z e => by
    have := st2.fr a (ls.sub.subset z)
    rw [e, p1] at this; cases this
  have hS : ∀ a ∈ S', H a = none ∧ a ≠ p ∨ ∃ i ∈ nms mv, a ∈ SI i := fun a z => by
    have fresh : H1 a = none → H a = none ∧ a ≠ p := fun h1 => by
      have hne : a ≠ p := fun e => by rw [e, p1] at h1; cases h1
      have h0 := st1.dom h1
      rw [upd_ne hne] at h0
      exact ⟨h0, hne⟩
    by_cases zo : a ∈ O2
    · exact .inl (fresh (st2.fr a zo))
    · rcases ls.new st2.nd a z with z | ⟨z, _⟩
      · rcases st2.al a z with q | q
        · exact .inl (fresh q)
        · exact .inr q
      · exact absurd z zo
  have hSp : ∀ a ∈ S', a ≠ p := fun a z => by
    rcases hS a z with q | ⟨i, _, q⟩
    · exact q.2
    · intro e
      obtain ⟨o, ho⟩ := r.dom i a q
      rw [e, hp] at ho; cases ho
  have hm : ∀ u, H2 p = some u → imm u = false := fun u e => by rw [p2] at e; cases e; rfl
  have q3 : Rep (gam X) κ2 (upd H2 p (.dK [(lk, y)])) _ y dv O' S' := q'.away (Keeps.upd hm) st2.cl hO hSp
  refine k _ _ κ2 (p :: O') S' ⟨fun a o e n => ?_, ⟨st1.kx.1.trans st2.kx.1, fun a z => ?_⟩, st2.cr.away hm hpk2, List.nodup_cons.mpr ⟨fun z => hO p z rfl, ls.sub.nodup st2.nd⟩, fun a z => ?_, fun a z => ?_, fun a z y => ?_⟩ ?_
  · have hne : a ≠ p := fun z => by rw [z, hp] at e; cases e
    rw [upd_ne hne]
    have e0 : upd H p (.dK []) a = some o := by rw [upd_ne hne]; exact e
    exact st2.ext a o (st1.ext a o e0 n) (st1.kx.notin e0 n)
  · have fr0 : upd H p (.dK []) a = none → H a = none := fun h => by
      by_cases e : a = p
      · rw [e, upd_same] at h; cases h
      · rw [upd_ne e] at h; exact h
    rcases st2.kx.2 a z with z | z
    · rcases st1.kx.2 a z with z | z
      · exact .inl z
      · exact .inr (fr0 z)
    · exact .inr (fr0 (st1.dom z))
  · rcases List.mem_cons.mp z with rfl | z
    · exact hp
    · have h0 := st1.dom (st2.fr a (ls.sub.subset z))
      rw [upd_ne (hO a z)] at h0
      exact h0
  · rcases hS a z with q | ⟨i, hi, q⟩
    · exact .inl q.1
    · refine .inr ⟨i, ?_, q⟩
      show i ∈ nms mk ++ (nms mv ++ [])
      exact List.mem_append_right _ (List.mem_append_left _ hi)
  · rcases List.mem_cons.mp y with e | y
    · exact hSp a z e
    · rcases ls.new st2.nd a z with q | ⟨_, q⟩
      · exact st2.ap a q (ls.sub.subset y)
      · exact q y
  · have hput : puts [] [(kk, dv)] = [(kk, dv)] := rfl
    rw [show own T.rl (.dic false [mk, mv]) = 1 + min (own T.rl mk) (min (own T.rl mv) 90) from rfl, Nat.add_comm]
    exact .dic (O := O') (S := S') upd_same ⟨by show [lkey kk] = _; rw [l1]; rfl, by simp [puts, put]⟩ (by
      have z := RepL.cons q3 (RepL.nil (n := min (own T.rl mk) (min (own T.rl mv) 90)))
      rw [List.append_nil, List.append_nil] at z
      exact z)
/-- isinstance(e, T), T a built-in class -/
def tyNs : List String := ["str", "int", "bool", "list", "tuple", "dict"]
theorem ty_boot : (tyNs.all fun t => decide (bootBuiltins (Str.ofString t) = some (.type t)) && (decide (Str.ofString t ≠ "__name__") && decide ((Str.ofString t == ("__debug__" : Str)) = false))) = true := by decide +kernel
theorem c_isi {t : String} (ht : tyNs.contains t = true) (hmx : X.mg (Str.ofString t) = none) (hgx : Gl X (Str.ofString t)) (hm : X.mg "isinstance" = none) (hgi : Gl X "isinstance") (he : PE X e (tX (gam X) T m)) (hs : star e = false) :
    PE X (.Call (.Name "isinstance" p) [e, .Name (Str.ofString t) p2] [] pos) (tX (gam X) T (.isi m [t])) := by
  have hb := List.all_eq_true.mp ty_boot t (List.contains_iff_mem.mp ht)
  obtain ⟨b1, hb⟩ := Bool.and_eq_true_iff.mp hb
  obtain ⟨b2, b3⟩ := Bool.and_eq_true_iff.mp hb
  have pc : PE X (.Name (Str.ofString t) p2) (tC (.ty t)) := pe_bltn hgx hmx (of_decide_eq_true b1) rfl (of_decide_eq_true b2) (of_decide_eq_true b3)
  refine PE.imp (pe_callB (isi1R t) hgi hm (by decide +kernel) (pa_cons he (pa_cons pc pa_nil (star_each rfl)) (star_each hs)) (by decide) (by decide) (star_each hs) (star_all (by rfl))) fun σ H Q ⟨κ, g, env, SI, c, r, d, g', q, k⟩ => ?_
  rw [ev] at q
  obtain ⟨⟨d1, g1⟩, e1, q⟩ := bnd q
  obtain ⟨b, e2, q⟩ := mpd q
  cases q
  refine run1 c r e1 fun y H1 κ1 S st q => ?_
  show rIsi1 (gam X) t [y, .ty t] H1 Q
  exact ⟨κ1, y, d1, S, b, rfl, q, e2, k _ _ κ1 [] [] (st.few (S' := []) (fun _ z => nomatch z)).names0 .bl⟩
end
end VL
/-! V15: an expression of the row is checked against the syntax; soundness. -/
namespace VL
open PySem L2 PyProof.Rows

structure Sc where
  N : List Str
  sc : Scope
  fns : List (Str × Nat)
  bls : List Str
  atts : List (Str × Str)
  ers : List Str := []
  exbs : List Str := []
  isxs : List Str := []
  ens : List Str := []
def visB (sc : Scope) (x : Str) : Bool := sc.names.lookup x == some .local || (sc.names.lookup x == some .cell || sc.names.lookup x == some .free)
def glB (sc : Scope) (x : Str) : Bool := sc.names.lookup x == some .globalImplicit
def noDb (x : Str) : Bool := !(x == ("__debug__" : Str)) && !(x == ("__classdict__" : Str))
def baseB : Expr → Bool
  | .Call (.Name _ _) [] [] _ => false
  | _ => true
def sliceB : Expr → Bool
  | .Slice .. => false
  | _ => true
def setB : Expr → Bool
  | .Set .. => false
  | _ => true
/-- the operands of what is walked -/
def itArgs (S : Sc) (k : ItK) (e : Expr) : List Expr := match k with
  | .val => [e]
  | .rng1 => match e with
    | .Call (.Name x _) [a] [] _ => if x == ("range" : Str) && (glB S.sc x && S.bls.contains x) then [a] else []
    | _ => []
  | .rng2 => match e with
    | .Call (.Name x _) [a, b] [] _ => if x == ("range" : Str) && (glB S.sc x && S.bls.contains x) then [a, b] else []
    | _ => []
  | _ => []
def itLen : ItK → Nat
  | .rng2 => 2
  | _ => 1
def isTst : Ex → Bool
  | .bop _ _ => true | .not _ => true | .cmp _ _ _ => true | .cm2 _ _ _ _ _ => true | .nev => true
  | _ => false
def grd (tst : Bool) (m : Ex) (e : Expr) : Bool := !tst || (plainT e || isTst m)
mutual
def chk (tst : Bool) (S : Sc) : Ex → Expr → Bool
  | .nev, _ => true
  | .bop a ms, e => match e with
    | .BoolOp o es _ => tst && (decide (o = opL a) && (!ms.isEmpty && chkL true S ms es))
    | _ => false
  | .orv a ms, e => match e with
    | .BoolOp o es _ => !tst && (decide (o = opL a) && (!ms.isEmpty && chkL false S ms es))
    | _ => false
  | .not m, e => match e with
    | .UnaryOp .Not x _ => grd tst m x && chk tst S m x
    | _ => false
  | .cmp o a b, e => match e with
    | .Compare x [op] [y] _ => decide (op = opC o) && (chk false S a x && (chk false S b y && !behindInMarks op y))
    | _ => false
  | .cm2 o p a b c, e => match e with
    | .Compare x [op, op2] [y, z] _ => decide (op = opC o) && (decide (op2 = opC p) && (chk false S a x && (chk false S b y && (chk false S c z && !lastMarks [op, op2] [y, z]))))
    | _ => false
  | .ite c a b, e => match e with
    | .IfExp ec ea eb _ => !tst && ((grd true c ec && chk true S c ec) && (chk false S a ea && chk false S b eb))
    | _ => false
  | .non, e => match e with | .Constant .none _ _ => true | _ => false
  | .bl b, e => match e with | .Constant (.bool b') _ _ => b == b' | _ => false
  | .int i, e => match e with | .Constant (.int i') _ _ => decide (i = i') | _ => false
  | .str x, e => match e with | .Constant (.str x') _ _ => decide (x = x') | _ => false
  | .var i, e => match e with | .Name x _ => S.N[i]? == some x && (visB S.sc x && noDb x) | _ => false
  | .tup ms, e => match e with | .Tuple es _ _ => chkL false S ms es | _ => false
  | .lst ms, e => match e with | .List es _ => chkL false S ms es | _ => false
  | .neg m, e => match e with | .UnaryOp .USub x _ => (!tst || true) && chk false S m x | _ => false
  | .bin o a b, e => match e with | .BinOp x op y _ => decide (op = opB o) && (chk false S a x && chk false S b y) | _ => false
  | .sub a b, e => match e with | .Subscript x y _ => sliceB y && (chk false S a x && chk false S b y) | _ => false
  | .sli a lo hi, e => match e with | .Subscript x (.Slice l h none _) _ => chk false S a x && (chkL false S lo (optL l) && chkL false S hi (optL h)) | _ => false
  | .rev a, e => match e with | .Subscript x (.Slice none none (some (.UnaryOp .USub (.Constant (.int 1) _ _) _)) _) _ => chk false S a x | _ => false
  | .att c a f, e => match e with | .Attribute x f' _ => decide (f = f') && (S.atts.contains (c, f) && (baseB x && chk false S a x)) | _ => false
  | .cal f ms, e => match e with | .Call (.Name x _) es [] _ => decide (f = x) && (S.fns.contains (f, ms.length) && (glB S.sc f && (noDb f && chkL false S ms es))) | _ => false
  | .bui b ms, e => match e with | .Call (.Name x _) es [] _ => decide (x = nameB b) && (S.bls.contains x && (glB S.sc x && (!ms.isEmpty && chkL false S ms es))) | _ => false
  | .bme b o ms, e => match e with
    | .Call (.Attribute x f ap) es [] p => decide (f = nameM b) && (baseB x && (ap.endLine == p.line && (decide (es.length < 30) && (chk false S o x && chkL false S ms es))))
    | _ => false
  | .lc t k ies ifs elt, e => match e with
    | .ListComp ee [⟨tg, it, eifs, 0⟩] sc' _ => let S' : Sc := { S with sc := relS sc' S.sc }
      (ies.length == itLen k && (chkL false S ies (itArgs S k it) && setB it)) && (chkL true S' ifs eifs && (decide (ifs.length ≤ 1) && (chk false S' elt ee && (tgB S.N t tg && (tgOk sc' tg && blkB S.N S.sc sc' (ownOf S.N (slots t)))))))
    | _ => false
  | .glo _, _ => false
  | .con _ _, _ => false
  | .dic n ms, e => match e with
    | .Dict [some k] [v] _ => !n && (decide (ms.length = 2) && chkL false S ms [k, v])
    | _ => false
  | .err c ms, e => match e with
    | .Call (.Name x _) es [] _ => decide (c = x) && (S.ers.contains c && (glB S.sc c && (noDb c && (decide (ms.length ≤ 1) && chkL false S ms es))))
    | .Call (.Name x _) [] [⟨v, a, _⟩] _ => decide (c = x) && (decide (v = some ("value" : Str)) && (S.ers.contains c && (glB S.sc c && (noDb c && chkL false S ms [a]))))
    | _ => false
  | .exb c, e => match e with
    | .Call (.Name x _) [] [] _ => decide (c = x) && (S.exbs.contains c && (glB S.sc c && noDb c))
    | _ => false
  | .isx ns m c, e => match e with
    | .Call (.Name x _) [a, .Name y _] [] _ => decide (x = "isinstance") && (decide (c = y) && (decide (ns = S.ens) && (S.isxs.contains c && (S.bls.contains "isinstance" && (glB S.sc "isinstance" && (glB S.sc c && (!star a && chk false S m a)))))))
    | _ => false
  | .atv ns m, e => match e with
    | .Attribute x f _ => decide (f = "value") && (decide (ns = S.ens) && (baseB x && chk false S m x))
    | _ => false
  | .mak _ _, _ => false
  | .mth _ _ _ _ _, _ => false
  | .isi m ts, e => match e with
    | .Call (.Name x _) [a, .Name y _] [] _ => decide (x = "isinstance") && (decide (ts.length = 1) && (decide (y = Str.ofString (ts.headD "")) && (tyNs.contains (ts.headD "") && (S.bls.contains y && (glB S.sc y && (S.bls.contains "isinstance" && (glB S.sc "isinstance" && (!star a && chk false S m a))))))))
    | _ => false
  | .isc _ _, _ => false
  | .lc2 _ _ _ _ _ _ _ _ _, _ => false
  | .dc _ _ _ _ _ _ _, _ => false
  | .upd _ _ _, _ => false
def chkL (tst : Bool) (S : Sc) : List Ex → List Expr → Bool
  | [], [] => true
  | m :: ms, e :: es => (!star e && grd tst m e) && (chk tst S m e && chkL tst S ms es)
  | _, _ => false
end
/-! ### soundness -/
structure Cok (X : Cx) (T : Tab) (S : Sc) : Prop where
  N : X.N = S.N
  sc : X.env.scope = S.sc
  nd : X.N.Nodup
  calm : X.calm = true
  hu : X.A.units + 70 < cLine
  fns : ∀ f n, S.fns.contains (f, n) = true → CalOk X T f n
  bls : ∀ x, S.bls.contains x = true → X.mg x = none
  atts : ∀ c f, S.atts.contains (c, f) = true → AttF X c f
  gu : X.A.guards = some []
  sm : (X.K.lookup sysModules).isSome = true
  ers : ∀ c, S.ers.contains c = true → ∃ (k : Nat) (C f : Addr) (fd : FuncData), Room (k + 1) X.A ∧ VE.ErrM X.prog X.K X.mg C f fd ∧ X.mg c = some (.ref C)
  exbs : ∀ c, S.exbs.contains c = true → ∃ C, PySem.W.excIn X.K C He.veBase "ValueError.__new__" = true ∧ PySem.W.keepIn X.K (.ref C) = true ∧ X.mg c = some (.ref C)
  isxs : ∀ c, S.isxs.contains c = true → IsxOk X S.ens c
  atv : AtvOk X S.ens
section
variable {T : Tab} {X : Cx} {S : Sc} {e : Expr} {es : List Expr} {m : Ex} {ms : List Ex} {pos : Pos} {tst : Bool}
theorem Cok.blk (C : Cok X T S) (s : Shared) (H : Hp) (scope : Scope) (c : Addr) (cl : List (Str × Addr)) (fp : List Addr) : Cok (X.blk s H scope (compEnvC scope cl c X.env) fp) T { S with sc := relS scope S.sc } :=
  ⟨C.N, by show relS scope X.env.scope = _; rw [C.sc], C.nd, C.calm, C.hu, C.fns, C.bls, C.atts, C.gu, C.sm, C.ers, C.exbs, C.isxs, C.atv⟩
theorem Cok.gl (C : Cok X T S) {x : Str} (h : glB S.sc x = true) : Gl X x := by
  unfold Gl Env.kindOf
  rw [C.sc]
  exact beq_iff_eq.mp h
def Res (X : Cx) (T : Tab) (tst : Bool) (m : Ex) (e : Expr) : Prop := match tst && isTst m with
  | true => PT X e (tT (gam X) T m)
  | false => PE X e (tX (gam X) T m)
theorem Res.pe (h : PE X e (tX (gam X) T m)) (hm : (tst && isTst m) = false) : Res X T tst m e := by unfold Res; rw [hm]; exact h
theorem Res.out (h : Res X T false m e) : PE X e (tX (gam X) T m) := h
theorem Res.test (h : Res X T true m e) (g : grd true m e = true) : PT X e (tT (gam X) T m) := by
  unfold Res at h
  cases hm : isTst m with
  | true => rw [hm] at h; exact h
  | false =>
    rw [hm] at h
    unfold grd at g
    rw [hm] at g
    exact t_plain (by simpa using g) h
def AllR (X : Cx) (T : Tab) (tst : Bool) : List Ex → List Expr → Prop
  | [], [] => True
  | m :: ms, e :: es => star e = false ∧ grd tst m e = true ∧ Res X T tst m e ∧ AllR X T tst ms es
  | _, _ => False
theorem AllR.pa : ∀ {ms : List Ex} {es : List Expr}, AllR X T false ms es → PA X es (tXs (gam X) T ms)
  | [], [], _ => a_nil
  | m :: ms, e :: es, ⟨a, b, c, d⟩ => a_cons a c.out (AllR.pa d)
theorem AllR.stars : ∀ {ms : List Ex} {es : List Expr}, AllR X T tst ms es → es.all (fun e => !star e) = true
  | [], [], _ => rfl
  | m :: ms, e :: es, ⟨a, b, c, d⟩ => by rw [List.all_cons, a, AllR.stars d]; rfl
theorem AllR.len : ∀ {ms : List Ex} {es : List Expr}, AllR X T tst ms es → ms.length = es.length
  | [], [], _ => rfl
  | m :: ms, e :: es, ⟨a, b, c, d⟩ => by rw [List.length_cons, List.length_cons, AllR.len d]
theorem AllR.o {a : Bool} : ∀ {ms : List Ex} {es : List Expr}, AllR X T false ms es → ms ≠ [] → PE X (.BoolOp (opL a) es pos) (tO (gam X) T a ms)
  | [m], [e], ⟨_, _, c, _⟩, _ => o_one c.out
  | m :: m' :: ms, e :: e' :: es, ⟨_, _, c, d⟩, _ => o_cons c.out (AllR.o d (by simp))
  | [], _, _, h => absurd rfl h
theorem AllR.w {a : Bool} : ∀ {ms : List Ex} {es : List Expr}, AllR X T true ms es → ms ≠ [] → PW X (.BoolOp (opL a) es pos) (tB2 (gam X) T a ms)
  | [m], [e], ⟨_, g, c, _⟩, _ => w_one (c.test g)
  | m :: m' :: ms, e :: e' :: es, ⟨_, g, c, d⟩, _ => w_cons (c.test g) (AllR.w d (by simp))
  | [], _, _, h => absurd rfl h
theorem AllR.ts : ∀ {ms : List Ex} {es : List Expr}, AllR X T true ms es → ms.length ≤ 1 → PTs X es (tB2 (gam X) T true ms)
  | [], [], _, _ => ts_nil
  | [m], [e], ⟨_, g, c, _⟩, _ => ts_one (c.test g)
  | _ :: _ :: _, _, _, h => by simp at h
theorem AllR.po {lo : Option Expr} (h : AllR X T false ms (optL lo)) : PO X lo (tEnd (gam X) T ms) := by
  cases lo with
  | none =>
    cases ms with
    | nil => exact o_none
    | cons => exact h.elim
  | some e =>
    match ms, h with
    | [m], ⟨_, _, c, _⟩ => exact o_some c.out
theorem vis_ok {sc : Scope} {x : Str} (h : visB sc x = true) : Vis sc x := by
  simp only [visB, Bool.or_eq_true, beq_iff_eq] at h
  exact h
theorem base_ok (h : baseB e = true) (f : Str) : attributeBase e f X.env (eval e X.env) = eval e X.env := by
  cases e with
  | Call fn args kws p =>
    cases fn with
    | Name x px =>
      cases args with
      | nil =>
        cases kws with
        | nil => cases h
        | cons => rfl
      | cons => rfl
    | _ => rfl
  | _ => rfl
theorem slice_ok (h : sliceB e = true) : PlainIx e := fun o i => by cases e <;> first | rfl | cases h
theorem set_ok (h : setB e = true) (env : PySem.Env) (x : Value) : foldedSetIterable e env x = pure x := by cases e <;> first | rfl | cases h
theorem it_ok (C : Cok X T S) {k : ItK} {tg : Expr} (hl : (ms.length == itLen k) = true) (h : AllR X T false ms (itArgs S k e)) : PI X tg e (tI (gam X) T k ms) := by
  have hl := beq_iff_eq.mp hl
  cases k with
  | val =>
    match ms, h with
    | [m], ⟨_, _, c, _⟩ => exact p_val c.out
  | rng1 =>
    unfold itArgs at h
    match ms, hl with
    | [m], _ =>
      dsimp only at h
      split at h
      · split at h
        · rename_i hx
          simp only [Bool.and_eq_true, beq_iff_eq] at hx
          obtain ⟨rfl, h1, h2⟩ := hx
          exact p_rng1 (C.gl h1) (C.bls _ h2) h.1 h.pa
        · exact h.elim
      · exact h.elim
  | rng2 =>
    unfold itArgs at h
    match ms, hl with
    | [m, m'], _ =>
      dsimp only at h
      split at h
      · split at h
        · rename_i hx
          simp only [Bool.and_eq_true, beq_iff_eq] at hx
          obtain ⟨rfl, h1, h2⟩ := hx
          exact p_rng2 (C.gl h1) (C.bls _ h2) h.1 h.2.2.2.1 h.pa
        · exact h.elim
      · exact h.elim
  | _ => match ms, hl, h with
    | [m], _, h => exact h.elim
theorem db_ok {x : Str} (h : noDb x = true) : (x == ("__debug__" : Str)) = false ∧ (x == ("__classdict__" : Str)) = false := by
  simp only [noDb, Bool.and_eq_true, Bool.not_eq_true'] at h
  exact h
end
theorem and1 {a b : Bool} (h : (a && b) = true) : a = true ∧ b = true := Bool.and_eq_true_iff.mp h
mutual
theorem snd {T : Tab} : ∀ (m : Ex) (tst : Bool) (S : Sc) (e : Expr) (X : Cx), Cok X T S → chk tst S m e = true → Res X T tst m e
  | .nev, tst, S, e, X, C, h => by
    cases tst with
    | false => exact c_nev
    | true => exact (⟨fun _ _ _ _ _ _ ⟨_, _, _, _, _, _, _, _, _, q, _⟩ => by rw [ev] at q; cases q⟩ : PT X e (tT (gam X) T .nev))
  | .bop a ms, tst, S, e, X, C, h => by
    unfold chk at h
    split at h
    · obtain ⟨h1, h⟩ := and1 h
      obtain ⟨h2, h⟩ := and1 h
      obtain ⟨h3, h4⟩ := and1 h
      cases of_decide_eq_true h2
      cases (show tst = true from h1)
      exact t_bop ((sndL ms true S _ X C h4).w (by simpa using h3))
    · cases h
  | .orv a ms, tst, S, e, X, C, h => by
    unfold chk at h
    split at h
    · obtain ⟨h1, h⟩ := and1 h
      obtain ⟨h2, h⟩ := and1 h
      obtain ⟨h3, h4⟩ := and1 h
      cases of_decide_eq_true h2
      have ht : tst = false := by simpa using h1
      subst ht
      exact c_orv ((sndL ms false S _ X C h4).o (by simpa using h3))
    · cases h
  | .not m, tst, S, e, X, C, h => by
    unfold chk at h
    split at h
    · obtain ⟨h1, h⟩ := and1 h
      have r := snd m tst S _ X C h
      cases tst with
      | false => exact c_not r.out
      | true => exact t_not (r.test h1)
    · cases h
  | .cmp o a b, tst, S, e, X, C, h => by
    unfold chk at h
    split at h
    · obtain ⟨h1, h⟩ := and1 h
      obtain ⟨h2, h⟩ := and1 h
      obtain ⟨h3, h4⟩ := and1 h
      cases of_decide_eq_true h1
      have ra := (snd a false S _ X C h2).out
      have rb := (snd b false S _ X C h3).out
      have hb := (Bool.not_eq_true' _).mp h4
      cases tst with
      | false => exact c_cmp C.hu ra rb hb
      | true => exact t_cmp C.hu ra rb hb
    · cases h
  | .cm2 o p a b c, tst, S, e, X, C, h => by
    unfold chk at h
    split at h
    · obtain ⟨h1, h⟩ := and1 h
      obtain ⟨h0, h⟩ := and1 h
      obtain ⟨h2, h⟩ := and1 h
      obtain ⟨h3, h⟩ := and1 h
      obtain ⟨h4, h5⟩ := and1 h
      cases of_decide_eq_true h1
      cases of_decide_eq_true h0
      have ra := (snd a false S _ X C h2).out
      have rb := (snd b false S _ X C h3).out
      have rc := (snd c false S _ X C h4).out
      have hb := (Bool.not_eq_true' _).mp h5
      cases tst with
      | false => exact c_cm2 C.hu ra rb rc hb
      | true => exact t_cm2 C.hu ra rb rc hb
    · cases h
  | .ite c a b, tst, S, e, X, C, h => by
    unfold chk at h
    split at h
    · obtain ⟨h1, h⟩ := and1 h
      obtain ⟨h0, h⟩ := and1 h
      obtain ⟨h2, h3⟩ := and1 h
      obtain ⟨h4, h5⟩ := and1 h0
      have ht : tst = false := by simpa using h1
      subst ht
      exact c_ite ((snd c true S _ X C h5).test h4) (snd a false S _ X C h2).out (snd b false S _ X C h3).out
    · cases h
  | .non, tst, S, e, X, C, h => by
    unfold chk at h
    split at h
    · exact .pe c_non (by cases tst <;> rfl)
    · cases h
  | .bl b, tst, S, e, X, C, h => by
    unfold chk at h
    split at h
    · cases beq_iff_eq.mp h
      exact .pe c_bl (by cases tst <;> rfl)
    · cases h
  | .int i, tst, S, e, X, C, h => by
    unfold chk at h
    split at h
    · cases of_decide_eq_true h
      exact .pe c_int (by cases tst <;> rfl)
    · cases h
  | .str x, tst, S, e, X, C, h => by
    unfold chk at h
    split at h
    · cases of_decide_eq_true h
      exact .pe c_str (by cases tst <;> rfl)
    · cases h
  | .var i, tst, S, e, X, C, h => by
    unfold chk at h
    split at h
    · obtain ⟨h1, h⟩ := and1 h
      obtain ⟨h2, h3⟩ := and1 h
      obtain ⟨d1, d2⟩ := db_ok h3
      exact .pe (c_var (by rw [C.N]; exact beq_iff_eq.mp h1) (by rw [C.sc]; exact vis_ok h2) d1 d2) (by cases tst <;> rfl)
    · cases h
  | .tup ms, tst, S, e, X, C, h => by
    unfold chk at h
    split at h
    · exact .pe (c_tup (sndL ms false S _ X C h).pa) (by cases tst <;> rfl)
    · cases h
  | .lst ms, tst, S, e, X, C, h => by
    unfold chk at h
    split at h
    · exact .pe (c_lst (sndL ms false S _ X C h).pa) (by cases tst <;> rfl)
    · cases h
  | .neg m, tst, S, e, X, C, h => by
    unfold chk at h
    split at h
    · exact .pe (c_neg (snd m false S _ X C (and1 h).2).out) (by cases tst <;> rfl)
    · cases h
  | .bin o a b, tst, S, e, X, C, h => by
    unfold chk at h
    split at h
    · obtain ⟨h1, h⟩ := and1 h
      obtain ⟨h2, h3⟩ := and1 h
      cases of_decide_eq_true h1
      exact .pe (c_bin (snd a false S _ X C h2).out (snd b false S _ X C h3).out) (by cases tst <;> rfl)
    · cases h
  | .sub a b, tst, S, e, X, C, h => by
    unfold chk at h
    split at h
    · obtain ⟨h1, h⟩ := and1 h
      obtain ⟨h2, h3⟩ := and1 h
      exact .pe (c_sub C.hu (slice_ok h1) (snd a false S _ X C h2).out (snd b false S _ X C h3).out) (by cases tst <;> rfl)
    · cases h
  | .sli a lo hi, tst, S, e, X, C, h => by
    unfold chk at h
    split at h
    · obtain ⟨h1, h⟩ := and1 h
      obtain ⟨h2, h3⟩ := and1 h
      exact .pe (c_sli (snd a false S _ X C h1).out (sndL lo false S _ X C h2).po (sndL hi false S _ X C h3).po) (by cases tst <;> rfl)
    · cases h
  | .rev a, tst, S, e, X, C, h => by
    unfold chk at h
    split at h
    · exact .pe (c_rev (snd a false S _ X C h).out) (by cases tst <;> rfl)
    · cases h
  | .att c a f, tst, S, e, X, C, h => by
    unfold chk at h
    split at h
    · obtain ⟨h1, h⟩ := and1 h
      obtain ⟨h2, h⟩ := and1 h
      obtain ⟨h3, h4⟩ := and1 h
      cases of_decide_eq_true h1
      exact .pe (c_att (C.atts _ _ h2) (snd a false S _ X C h4).out (base_ok h3 _)) (by cases tst <;> rfl)
    · cases h
  | .cal f ms, tst, S, e, X, C, h => by
    unfold chk at h
    split at h
    · rename_i es0 p2
      obtain ⟨h1, h⟩ := and1 h
      obtain ⟨h2, h⟩ := and1 h
      obtain ⟨h3, h⟩ := and1 h
      obtain ⟨h4, h5⟩ := and1 h
      cases of_decide_eq_true h1
      have r := sndL ms false S _ X C h5
      refine .pe ?_ (by cases tst <;> rfl)
      cases es0 with
      | nil =>
        cases ms with
        | nil => exact c_cal0 (C.fns _ _ h2) (C.gl h3) (db_ok h4).1
        | cons => exact r.elim
      | cons e es =>
        have hst := r.stars
        rw [List.all_cons] at hst
        exact c_cal (C.fns _ _ h2) (C.gl h3) (db_ok h4).1 (by simpa using (and1 hst).1) (and1 hst).2 r.pa
    · cases h
  | .bui b ms, tst, S, e, X, C, h => by
    unfold chk at h
    split at h
    · rename_i es0 p2
      obtain ⟨h1, h⟩ := and1 h
      obtain ⟨h2, h⟩ := and1 h
      obtain ⟨h3, h⟩ := and1 h
      obtain ⟨h4, h5⟩ := and1 h
      cases of_decide_eq_true h1
      have r := sndL ms false S _ X C h5
      refine .pe ?_ (by cases tst <;> rfl)
      cases es0 with
      | nil =>
        cases ms with
        | nil => cases h4
        | cons => exact r.elim
      | cons e es =>
        have hst := r.stars
        rw [List.all_cons] at hst
        exact c_bui C.gu C.sm C.calm C.hu (C.gl h3) (C.bls _ h2) (by simpa using (and1 hst).1) (and1 hst).2 r.pa
    · cases h
  | .bme b o ms, tst, S, e, X, C, h => by
    unfold chk at h
    split at h
    · obtain ⟨h1, h⟩ := and1 h
      obtain ⟨h2, h⟩ := and1 h
      obtain ⟨h3, h⟩ := and1 h
      obtain ⟨h4, h⟩ := and1 h
      obtain ⟨h5, h6⟩ := and1 h
      cases of_decide_eq_true h1
      have r := sndL ms false S _ X C h6
      exact .pe (c_bme C.calm C.hu (snd o false S _ X C h5).out r.stars (of_decide_eq_true h4) r.pa (base_ok h2) h3) (by cases tst <;> rfl)
    · cases h
  | .lc t k ies ifs elt, tst, S, e, X, C, h => by
    unfold chk at h
    split at h
    · obtain ⟨h1, h⟩ := and1 h
      obtain ⟨h2, h⟩ := and1 h
      obtain ⟨h3, h⟩ := and1 h
      obtain ⟨h4, h⟩ := and1 h
      obtain ⟨h5, h⟩ := and1 h
      obtain ⟨h6, h7⟩ := and1 h
      obtain ⟨h8, h9⟩ := and1 h1
      obtain ⟨h10, h11⟩ := and1 h9
      refine .pe (c_lc C.calm C.nd (it_ok C h8 (sndL ies false S _ X C h10)) (by rw [C.N, C.sc]; exact blk_ok h7) (pg_blk C.calm C.nd (by rw [C.N]; exact h5) h6)
        (fun s H c cl fp => (sndL ifs true _ _ _ (C.blk s H _ c cl fp) h2).ts (of_decide_eq_true h3)) (fun s H c cl fp => (snd elt false _ _ _ (C.blk s H _ c cl fp) h4).out) (fun x => set_ok h11 _ x)) (by cases tst <;> rfl)
    · cases h
  | .glo _, tst, S, e, X, C, h => by unfold chk at h; cases h
  | .con _ _, tst, S, e, X, C, h => by unfold chk at h; cases h
  | .dic n ms, tst, S, e, X, C, h => by
    unfold chk at h
    split at h
    · obtain ⟨h1, h⟩ := and1 h
      obtain ⟨h2, h3⟩ := and1 h
      have hn : n = false := by simpa using h1
      subst hn
      have r := sndL ms false S _ X C h3
      match ms, of_decide_eq_true h2, r with
      | [mk, mv], _, ⟨_, _, rk, _, _, rv, _⟩ => exact .pe (c_dic1 rk.out rv.out) (by cases tst <;> rfl)
    · cases h
  | .err c ms, tst, S, e, X, C, h => by
    unfold chk at h
    split at h
    · rename_i es p2
      obtain ⟨h1, h⟩ := and1 h
      obtain ⟨h2, h⟩ := and1 h
      obtain ⟨h3, h⟩ := and1 h
      obtain ⟨h4, h⟩ := and1 h
      obtain ⟨h5, h6⟩ := and1 h
      cases of_decide_eq_true h1
      have r := sndL ms false S _ X C h6
      obtain ⟨k, C1, f1, fd, hr, t, hm⟩ := C.ers c h2
      refine .pe ?_ (by cases tst <;> rfl)
      match ms, es, r, of_decide_eq_true h5 with
      | [], [], _, _ => exact c_err0 t hr (C.gl h3) hm (db_ok h4).1
      | [m], [e], ⟨hs, _, rm, _⟩, _ => exact c_err1 t hr (C.gl h3) hm rm.out hs (db_ok h4).1
    · rename_i v a kp p2 _
      obtain ⟨h1, h⟩ := and1 h
      obtain ⟨h0, h⟩ := and1 h
      obtain ⟨h2, h⟩ := and1 h
      obtain ⟨h3, h⟩ := and1 h
      obtain ⟨h4, h6⟩ := and1 h
      cases of_decide_eq_true h1
      cases of_decide_eq_true h0
      have r := sndL ms false S _ X C h6
      obtain ⟨k, C1, f1, fd, hr, t, hm⟩ := C.ers c h2
      refine .pe ?_ (by cases tst <;> rfl)
      match ms, r with
      | [m], ⟨hs, _, rm, _⟩ => exact c_errk t hr (C.gl h3) hm rm.out (db_ok h4).1
    · cases h
  | .exb c, tst, S, e, X, C, h => by
    unfold chk at h
    split at h
    · obtain ⟨h1, h⟩ := and1 h
      obtain ⟨h2, h⟩ := and1 h
      obtain ⟨h3, h4⟩ := and1 h
      cases of_decide_eq_true h1
      obtain ⟨C1, hq, hk, hm⟩ := C.exbs c h2
      exact .pe (c_exb hq hm hk (C.gl h3) (db_ok h4).1) (by cases tst <;> rfl)
    · cases h
  | .isx ns m c, tst, S, e, X, C, h => by
    unfold chk at h
    split at h
    · obtain ⟨h1, h⟩ := and1 h
      obtain ⟨h2, h⟩ := and1 h
      obtain ⟨h3, h⟩ := and1 h
      obtain ⟨h4, h⟩ := and1 h
      obtain ⟨h5, h⟩ := and1 h
      obtain ⟨h6, h⟩ := and1 h
      obtain ⟨h7, h⟩ := and1 h
      obtain ⟨h8, h9⟩ := and1 h
      cases of_decide_eq_true h1
      cases of_decide_eq_true h2
      cases of_decide_eq_true h3
      exact .pe (c_isx (C.isxs c h4) (C.bls _ h5) (C.gl h6) (C.gl h7) (snd m false S _ X C h9).out (by simpa using h8)) (by cases tst <;> rfl)
    · cases h
  | .atv ns m, tst, S, e, X, C, h => by
    unfold chk at h
    split at h
    · obtain ⟨h1, h⟩ := and1 h
      obtain ⟨h2, h⟩ := and1 h
      obtain ⟨h3, h4⟩ := and1 h
      cases of_decide_eq_true h1
      cases of_decide_eq_true h2
      exact .pe (c_atv C.atv (snd m false S _ X C h4).out (base_ok h3 _)) (by cases tst <;> rfl)
    · cases h
  | .mak _ _, tst, S, e, X, C, h => by unfold chk at h; cases h
  | .mth _ _ _ _ _, tst, S, e, X, C, h => by unfold chk at h; cases h
  | .isi m ts, tst, S, e, X, C, h => by
    unfold chk at h
    split at h
    · obtain ⟨h1, h⟩ := and1 h
      obtain ⟨h2, h⟩ := and1 h
      obtain ⟨h3, h⟩ := and1 h
      obtain ⟨h4, h⟩ := and1 h
      obtain ⟨h5, h⟩ := and1 h
      obtain ⟨h6, h⟩ := and1 h
      obtain ⟨h7, h⟩ := and1 h
      obtain ⟨h8, h⟩ := and1 h
      obtain ⟨h9, h10⟩ := and1 h
      cases of_decide_eq_true h1
      cases of_decide_eq_true h3
      match ts, of_decide_eq_true h2 with
      | [t], _ => exact .pe (c_isi h4 (C.bls _ h5) (C.gl h6) (C.bls _ h7) (C.gl h8) (snd m false S _ X C h10).out (by simpa using h9)) (by cases tst <;> rfl)
    · cases h
  | .isc _ _, tst, S, e, X, C, h => by unfold chk at h; cases h
  | .lc2 _ _ _ _ _ _ _ _ _, tst, S, e, X, C, h => by unfold chk at h; cases h
  | .dc _ _ _ _ _ _ _, tst, S, e, X, C, h => by unfold chk at h; cases h
  | .upd _ _ _, tst, S, e, X, C, h => by unfold chk at h; cases h
theorem sndL {T : Tab} : ∀ (ms : List Ex) (tst : Bool) (S : Sc) (es : List Expr) (X : Cx), Cok X T S → chkL tst S ms es = true → AllR X T tst ms es
  | [], tst, S, [], X, C, h => trivial
  | m :: ms, tst, S, e :: es, X, C, h => by
    unfold chkL at h
    obtain ⟨h1, h⟩ := and1 h
    obtain ⟨h2, h3⟩ := and1 h
    obtain ⟨h4, h5⟩ := and1 h1
    exact ⟨by simpa using h4, h5, snd m tst S e X C h2, sndL ms tst S es X C h3⟩
  | [], tst, S, _ :: _, X, C, h => by unfold chkL at h; cases h
  | _ :: _, tst, S, [], X, C, h => by unfold chkL at h; cases h
end
end VL
/-! V16: statements: their syntax, their evaluator, what holds between them. -/
namespace VL
open PySem L2 PyProof.Rows
/-- names with how far their value is their own -/
abbrev Env2 := List (Option (D × Nat))
def vw (e : Env2) : VL.Env := e.map (Option.map (·.1))
/-- names whose values are shared from here on -/
def frz : Env2 → List Nat → Env2
  | e, [] => e
  | e, i :: is => frz (match e[i]? with
    | some (some (d, _)) => e.set i (some (d, 0))
    | _ => e) is
inductive St where
  | nev | pas
  | set (i : Nat) (e : Ex)
  | par (is : List Nat) (es : List Ex)
  | ret (e : Ex) | retv (i l : Nat) | retc (es : List Ex)
  | ife (c : Ex) (a b : List St)
  | fr (t : Tg) (k : ItK) (ies : List Ex) (body : List St)
  | cst (c k v : Ex)
inductive Out where
  | nx (e : Env2) (g : G) | rt (d : D) (g : G) | bk (e : Env2) (g : G) | ct (e : Env2) (g : G)
/-- is all of it its own -/
def whole (n : Nat) (d : D) : Bool := decide (d.mdep ≤ n) && decide (n < 100)
/-- a name takes a value -/
def setV (e : Env2) (i : Nat) (m : Ex) (n : Nat) (d : D) : Env2 := (if whole n d then e else frz e (nms m)).set i (some (d, n))
def setVs (e : Env2) (is : List Nat) (ms : List Ex) (n : Nat) (ds : List D) : Env2 := (is.zip ds).foldl (fun e p => e.set p.1 (some (p.2, n))) (if ds.all (whole n) then e else frz e (nmss ms))
def bind2 (t : Tg) (d : D) (e : Env2) : Option Env2 := match t with
  | .nm i => if i < e.length then some (e.set i (some (d, 0))) else none
  | .tp is => match d with
    | .tup xs => if xs.length = is.length ∧ is.all (fun i => decide (i < e.length)) = true then some ((is.zip xs).foldl (fun e p => e.set p.1 (some (p.2, 0))) e) else none
    | _ => none
def forLoop (f : D → Env2 → G → Option Out) : List D → Env2 → G → Option Out
  | [], e, g => some (.nx e g)
  | x :: r, e, g => (f x e g).bind fun o => match o with
    | .nx e g => forLoop f r e g
    | .ct e g => forLoop f r e g
    | .bk e g => some (.nx e g)
    | .rt d g => some (.rt d g)
def celD (d : D) (k v : D) (g : G) : Option G := match d, k, v with
  | .cel c, .int i, .int j => ((g : List (List D))[c]?).bind fun xs => if decide (0 ≤ i) && decide (i.toNat < xs.length) then some (g.set c (xs.set i.toNat (.int j))) else none
  | _, _, _ => none
mutual
def xs1 (Φ : Phi) (rl : Str → Nat) : St → Env2 → G → Option Out
  | .nev, _, _ => none
  | .pas, e, g => some (.nx e g)
  | .set i m, e, g => (ev Φ m (vw e) g).bind fun r => if i < e.length then some (.nx (setV e i m (own rl m) r.1) r.2) else none
  | .par is ms, e, g => (evs Φ ms (vw e) g).bind fun r => if r.1.length = is.length ∧ is.all (fun i => decide (i < e.length)) = true then some (.nx (setVs e is ms (owns rl ms) r.1) r.2) else none
  | .ret m, e, g => (ev Φ m (vw e) g).map fun r => .rt r.1 r.2
  | .retv i l, e, g => (e[i]?.join).bind fun d => if l ≤ d.2 then some (.rt d.1 g) else none
  | .retc ms, e, g => (evs Φ ms (vw e) g).bind fun r => if r.1.all (fun d => match d with | .int _ => true | _ => false) && sz r.1.length then some (.rt (.cel r.2.length) (r.2 ++ [r.1])) else none
  | .ife c a b, e, g => (ev Φ c (vw e) g).bind fun r => (truth r.1).bind fun t => if t then xss Φ rl a e r.2 else xss Φ rl b e r.2
  | .fr t k ies body, e, g => (evs Φ ies (vw e) g).bind fun r => (iter r.2 k r.1).bind fun xs => forLoop (fun x e g => (bind2 t x e).bind fun e => xss Φ rl body e g) xs (frz e (nmss ies)) r.2
  | .cst c k v, e, g => (ev Φ v (vw e) g).bind fun r => (ev Φ c (vw e) r.2).bind fun s => (ev Φ k (vw e) s.2).bind fun t => (celD s.1 t.1 r.1 t.2).map fun g => .nx e g
def xss (Φ : Phi) (rl : Str → Nat) : List St → Env2 → G → Option Out
  | [], e, g => some (.nx e g)
  | s :: r, e, g => (xs1 Φ rl s e g).bind fun o => match o with
    | .nx e g => xss Φ rl r e g
    | o => some o
end
/-! ### what holds between statements -/
structure EnvO (Γ : Gam) (κ : List Addr) (H : Hp) (σ : L2.St) (e : Env2) (OI SI : Nat → List Addr) : Prop where
  len : σ.length = e.length
  at_ : ∀ (i : Nat) (d : D) (n : Nat), e[i]? = some (some (d, n)) → ∃ v, σ[i]? = some (some v) ∧ Rep Γ κ H n v d (OI i) (SI i)
  off : ∀ i, (∀ d n, e[i]? ≠ some (some (d, n))) → OI i = [] ∧ SI i = []
  nd : ∀ i, (OI i).Nodup
  dj : ∀ i j a, i ≠ j → a ∈ OI i → a ∉ OI j
  ap : ∀ i j a, a ∈ OI i → a ∉ SI j
/-- what the loops around it walk: it stands -/
abbrev Pr := List (List Addr × Hp × List Addr)
/-- since the def's entry -/
structure Ent (Γ : Gam) (PR : Pr) (κ0 : List Addr) (H0 : Hp) (S0 : List Addr) (κ : List Addr) (H : Hp) (g : G) (OI SI : Nat → List Addr) : Prop where
  ext : Ext κ0 H0 H
  kx : KExt κ0 κ H0
  cr : CellR Γ κ H g
  fr : ∀ i a, a ∈ OI i → H0 a = none
  al : ∀ i a, a ∈ SI i → H0 a = none ∨ a ∈ S0
  pr : ∀ p ∈ PR, Keeps p.1 p.2.1 κ H (fun a => a ∈ p.2.2)
  po : ∀ p ∈ PR, ∀ j a, a ∈ OI j → a ∉ p.2.2
  pd : ∀ p ∈ PR, ∀ a ∈ p.2.2, ∃ o, H a = some o
def both (OI SI : Nat → List Addr) : Nat → List Addr := fun i => OI i ++ SI i
section
variable {Γ : Gam} {PR : Pr} {T : Tab} {κ κ0 κ1 κ2 κ3 : List Addr} {H H0 H1 H2 H3 : Hp} {g g1 g2 : G} {SI OI OI' SI' : Nat → List Addr} {I J : List Nat} {O1 O2 S0 S1 S2 O S : List Addr} {σ : L2.St} {e : Env2} {n : Nat} {X : Cx} {m m' : Ex} {ms : List Ex} {pos : Pos}
theorem vw_at (e : Env2) (i : Nat) (d : D) : (vw e)[i]? = some (some d) ↔ ∃ n, e[i]? = some (some (d, n)) := by
  unfold vw
  rw [List.getElem?_map]
  cases h : e[i]? with
  | none => simp
  | some o =>
    cases o with
    | none => simp
    | some p =>
      obtain ⟨d', n⟩ := p
      simp
theorem EnvO.dom (r : EnvO Γ κ H σ e OI SI) (c : Cl κ H) : ∀ i a, a ∈ both OI SI i → ∃ o, H a = some o := fun i a h => by
  by_cases z : ∃ d n, e[i]? = some (some (d, n))
  · obtain ⟨d, n, z⟩ := z
    obtain ⟨v, _, q⟩ := r.at_ i d n z
    rcases List.mem_append.mp h with h | h
    · exact ((q.dom c).1 a h).1
    · exact ((q.dom c).2 a h).1
  · obtain ⟨h1, h2⟩ := r.off i fun d n y => z ⟨d, n, y⟩
    unfold both at h
    rw [h1, h2] at h
    cases h
/-- an expression sees all as shared -/
theorem EnvO.env (r : EnvO Γ κ H σ e OI SI) (c : Cl κ H) : EnvR Γ κ H σ (vw e) (both OI SI) where
  len := by rw [r.len]; unfold vw; rw [List.length_map]
  at_ := fun i d h => by
    obtain ⟨n, h⟩ := (vw_at e i d).mp h
    obtain ⟨v, h1, q⟩ := r.at_ i d n h
    obtain ⟨O', S', q', l⟩ := Rep.less 0 q (Nat.zero_le _)
    cases q'.own0
    refine ⟨v, S', h1, q', fun a ha => ?_⟩
    rcases l.new (r.nd i) a ha with z | ⟨z, _⟩
    · exact List.mem_append_right _ z
    · exact List.mem_append_left _ z
  dom := r.dom c
theorem EnvO.mono (r : EnvO Γ κ H σ e OI SI) (c : Cl κ H) (x : Ext κ H H1) (k : KExt κ κ1 H) : EnvO Γ κ1 H1 σ e OI SI :=
  ⟨r.len, fun i d n h => let ⟨v, a, b⟩ := r.at_ i d n h; ⟨v, a, b.mono x c k⟩, r.off, r.nd, r.dj, r.ap⟩
theorem Keeps.ext {F : Addr → Prop} (k : Keeps κ1 H1 κ H F) (c : Cl κ H) (c2 : Cl κ2 H2) (x : Ext κ H H2) (kx : KExt κ κ2 H) : Keeps κ1 H1 κ2 H2 F :=
  ⟨fun a o e n z => x a o (k.at_ a o e n z) (k.kx.notin e n), k.kx.trans kx k.dm, fun a h => k.dm a (x.dom c2 kx.sub h)⟩
theorem Ent.dom (t : Ent Γ PR κ0 H0 S0 κ H g OI SI) {a : Addr} (h : H a = none) : H0 a = none := t.ext.dom t.cr.cl t.kx.sub h
theorem Ent.step (t : Ent Γ PR κ0 H0 S0 κ H g OI SI) (s : Step Γ κ H SJ I κ1 H1 g1 O S) : Ent Γ PR κ0 H0 S0 κ1 H1 g1 OI SI :=
  ⟨t.ext.trans t.kx s.ext, t.kx.trans s.kx (fun a h => t.dom h), s.cr, t.fr, t.al, fun p hp => (t.pr p hp).ext t.cr.cl s.cl s.ext s.kx, t.po, fun p hp a h => s.domS t.cr.cl (t.pd p hp a h)⟩
/-- what a name's new value brings is new to the def's entry, or came with the arguments -/
theorem Ent.al1 (t : Ent Γ PR κ0 H0 S0 κ H g OI SI) (s : Step Γ κ H (both OI SI) I κ1 H1 g1 O S) : ∀ a ∈ S, H0 a = none ∨ a ∈ S0 := fun a h => by
  rcases s.al a h with q | ⟨i, _, q⟩
  · exact .inl (t.dom q)
  · rcases List.mem_append.mp q with q | q
    · exact .inl (t.fr i a q)
    · exact t.al i a q
def upN {α : Type} (f : Nat → α) (i : Nat) (x : α) : Nat → α := fun j => if j = i then x else f j
/-- the names' own nodes given up -/
structure Given (OI SI OI' SI' : Nat → List Addr) : Prop where
  own : ∀ j a, a ∈ OI' j → a ∈ OI j
  sh : ∀ j a, a ∈ SI' j → a ∈ both OI SI j
theorem Given.refl : Given OI SI OI SI := ⟨fun _ _ h => h, fun _ _ h => List.mem_append_right _ h⟩
theorem Given.trans {OI2 SI2 : Nat → List Addr} (x : Given OI SI OI' SI') (y : Given OI' SI' OI2 SI2) : Given OI SI OI2 SI2 :=
  ⟨fun j a h => x.own j a (y.own j a h), fun j a h => (List.mem_append.mp (y.sh j a h)).elim (fun h => List.mem_append_left _ (x.own j a h)) (x.sh j a)⟩
theorem frz_one (r : EnvO Γ κ H σ e OI SI) (i : Nat) : ∃ OI' SI', EnvO Γ κ H σ (match e[i]? with | some (some (d, _)) => e.set i (some (d, 0)) | _ => e) OI' SI' ∧ Given OI SI OI' SI' ∧ OI' i = [] := by
  split
  · rename_i d n he
    obtain ⟨v, hv, q⟩ := r.at_ i d n he
    have hlt : i < e.length := (List.getElem?_eq_some_iff.mp he).1
    obtain ⟨O', S', q', ls⟩ := Rep.less 0 q (Nat.zero_le _)
    cases q'.own0
    have hS : ∀ a ∈ S', a ∈ both OI SI i := fun a ha => by
      rcases ls.new (r.nd i) a ha with z | ⟨z, _⟩
      · exact List.mem_append_right _ z
      · exact List.mem_append_left _ z
    have up1 : ∀ {f : Nat → List Addr} {x : List Addr}, upN f i x i = x := fun {f x} => by unfold upN; rw [if_pos rfl]
    have up2 : ∀ {f : Nat → List Addr} {x : List Addr} {j : Nat}, j ≠ i → upN f i x j = f j := fun {f x j} h => by unfold upN; rw [if_neg h]
    refine ⟨upN OI i [], upN SI i S', ⟨by rw [List.length_set]; exact r.len, fun j d' n' h => ?_, fun j h => ?_, fun j => ?_, fun j l a hjl h => ?_, fun j l a h => ?_⟩, ⟨fun j a h => ?_, fun j a h => ?_⟩, up1⟩
    · rw [List.getElem?_set] at h
      by_cases hij : i = j
      · subst hij
        rw [if_pos rfl, if_pos hlt] at h
        cases h
        rw [up1, up1]
        exact ⟨v, hv, q'⟩
      · rw [if_neg hij] at h
        rw [up2 (Ne.symm hij), up2 (Ne.symm hij)]
        exact r.at_ j d' n' h
    · by_cases hij : j = i
      · subst hij
        exact absurd (List.getElem?_set_self hlt) (h d 0)
      · rw [up2 hij, up2 hij]
        exact r.off j fun d' n' z => h d' n' (by rw [List.getElem?_set_ne (Ne.symm hij)]; exact z)
    · by_cases hij : j = i
      · subst hij; rw [up1]; exact List.nodup_nil
      · rw [up2 hij]; exact r.nd j
    · by_cases hij : j = i
      · subst hij; rw [up1] at h; cases h
      · rw [up2 hij] at h
        by_cases hil : l = i
        · subst hil; rw [up1]; exact fun z => nomatch z
        · rw [up2 hil]; exact r.dj j l a hjl h
    · by_cases hij : j = i
      · subst hij; rw [up1] at h; cases h
      · rw [up2 hij] at h
        by_cases hil : l = i
        · subst hil
          rw [up1]
          exact fun z => (List.mem_append.mp (hS a z)).elim (fun z => r.dj j l a hij h z) (r.ap j l a h)
        · rw [up2 hil]; exact r.ap j l a h
    · by_cases hij : j = i
      · subst hij; rw [up1] at h; cases h
      · rw [up2 hij] at h; exact h
    · by_cases hij : j = i
      · subst hij; rw [up1] at h; exact hS a h
      · rw [up2 hij] at h; exact List.mem_append_right _ h
  · rename_i hn
    exact ⟨OI, SI, r, .refl, (r.off i fun d n h => hn d n h).1⟩
theorem frz_ok : ∀ (is : List Nat) {e : Env2} {OI SI : Nat → List Addr}, EnvO Γ κ H σ e OI SI → ∃ OI' SI', EnvO Γ κ H σ (frz e is) OI' SI' ∧ Given OI SI OI' SI' ∧ ∀ i ∈ is, OI' i = []
  | [], e, OI, SI, r => ⟨OI, SI, r, .refl, fun _ h => nomatch h⟩
  | i :: is, e, OI, SI, r => by
    obtain ⟨O1, S1, r1, g1, h1⟩ := frz_one r i
    obtain ⟨O2, S2, r2, g2, h2⟩ := frz_ok is r1
    refine ⟨O2, S2, r2, g1.trans g2, fun j hj => ?_⟩
    rcases List.mem_cons.mp hj with rfl | hj
    · refine List.eq_nil_iff_forall_not_mem.mpr fun a ha => ?_
      have := g2.own j a ha
      rw [h1] at this
      cases this
    · exact h2 j hj
theorem Ent.given (t : Ent Γ PR κ0 H0 S0 κ H g OI SI) (x : Given OI SI OI' SI') : Ent Γ PR κ0 H0 S0 κ H g OI' SI' :=
  ⟨t.ext, t.kx, t.cr, fun i a h => t.fr i a (x.own i a h), fun i a h => (List.mem_append.mp (x.sh i a h)).elim (fun h => .inl (t.fr i a h)) (t.al i a), t.pr, fun p hp j a h => t.po p hp j a (x.own j a h), t.pd⟩
/-- a name takes a new value -/
theorem EnvO.put (r : EnvO Γ κ H σ e OI SI) {i : Nat} {v : V} {d : D} (q : Rep Γ κ H n v d O S) (hi : i < e.length) (nd : O.Nodup) (hO : ∀ j a, a ∈ O → a ∉ both OI SI j) (hS : ∀ j a, a ∈ OI j → a ∉ S) (hOS : ∀ a ∈ O, a ∉ S) :
    EnvO Γ κ H (σ.set i (some v)) (e.set i (some (d, n))) (upN OI i O) (upN SI i S) := by
  have up1 : ∀ {f : Nat → List Addr} {x : List Addr}, upN f i x i = x := fun {f x} => by unfold upN; rw [if_pos rfl]
  have up2 : ∀ {f : Nat → List Addr} {x : List Addr} {j : Nat}, j ≠ i → upN f i x j = f j := fun {f x j} h => by unfold upN; rw [if_neg h]
  refine ⟨by rw [List.length_set, List.length_set]; exact r.len, fun j d' n' h => ?_, fun j h => ?_, fun j => ?_, fun j l a hjl h => ?_, fun j l a h => ?_⟩
  · rw [List.getElem?_set] at h
    by_cases hij : i = j
    · subst hij
      rw [if_pos rfl, if_pos hi] at h
      cases h
      rw [up1, up1]
      exact ⟨v, List.getElem?_set_self (by rw [r.len]; exact hi), q⟩
    · rw [if_neg hij] at h
      rw [up2 (Ne.symm hij), up2 (Ne.symm hij)]
      obtain ⟨w, a, b⟩ := r.at_ j d' n' h
      exact ⟨w, by rw [List.getElem?_set_ne hij]; exact a, b⟩
  · by_cases hij : j = i
    · subst hij
      exact absurd (List.getElem?_set_self hi) (h d n)
    · rw [up2 hij, up2 hij]
      exact r.off j fun d' n' z => h d' n' (by rw [List.getElem?_set_ne (Ne.symm hij)]; exact z)
  · by_cases hij : j = i
    · subst hij; rw [up1]; exact nd
    · rw [up2 hij]; exact r.nd j
  · by_cases hij : j = i
    · subst hij
      rw [up1] at h
      rw [up2 (Ne.symm hjl)]
      exact fun z => hO l a h (List.mem_append_left _ z)
    · rw [up2 hij] at h
      by_cases hil : l = i
      · subst hil
        rw [up1]
        exact fun z => hO j a z (List.mem_append_left _ h)
      · rw [up2 hil]; exact r.dj j l a hjl h
  · by_cases hij : j = i
    · subst hij
      rw [up1] at h
      by_cases hil : l = j
      · subst hil; rw [up1]; exact hOS a h
      · rw [up2 hil]; exact fun z => hO l a h (List.mem_append_right _ z)
    · rw [up2 hij] at h
      by_cases hil : l = i
      · subst hil; rw [up1]; exact hS j a h
      · rw [up2 hil]; exact r.ap j l a h
theorem Ent.put {i : Nat} (t : Ent Γ PR κ0 H0 S0 κ H g OI SI) (hO : ∀ a ∈ O, H0 a = none) (hS : ∀ a ∈ S, H0 a = none ∨ a ∈ S0) (hP : ∀ p ∈ PR, ∀ a ∈ O, a ∉ p.2.2) : Ent Γ PR κ0 H0 S0 κ H g (upN OI i O) (upN SI i S) :=
  ⟨t.ext, t.kx, t.cr, fun j a h => by
    unfold upN at h
    split at h
    · exact hO a h
    · exact t.fr j a h, fun j a h => by
    unfold upN at h
    split at h
    · exact hS a h
    · exact t.al j a h, t.pr, fun p hp j a h => by
    unfold upN at h
    split at h
    · exact hP p hp a h
    · exact t.po p hp j a h, t.pd⟩
end
end VL
/-! V17: statements, one by one. -/
namespace VL
open PySem L2 PyProof.Rows
/-- the def's entry: cells, heap, the arguments' nodes; the result's level -/
structure Fr where
  κ0 : List Addr
  H0 : Hp
  S0 : List Addr
  lvl : Nat
def Post (Γ : Gam) (F : Fr) (PR : Pr) (D : Ends) : Out → Prop
  | .nx e g => ∀ σ H κ OI SI, Ent Γ PR F.κ0 F.H0 F.S0 κ H g OI SI → EnvO Γ κ H σ e OI SI → D.nx σ H
  | .ct e g => ∀ σ H κ OI SI, Ent Γ PR F.κ0 F.H0 F.S0 κ H g OI SI → EnvO Γ κ H σ e OI SI → D.ct σ H
  | .bk e g => ∀ σ H κ OI SI, Ent Γ PR F.κ0 F.H0 F.S0 κ H g OI SI → EnvO Γ κ H σ e OI SI → D.bk σ H
  | .rt d g => ∀ v H κ O S, Step Γ F.κ0 F.H0 (fun _ => F.S0) [0] κ H g O S → Rep Γ κ H F.lvl v d O S → D.rt v H
def tSt (Γ : Gam) (T : Tab) (F : Fr) (st : St) : TS := fun D σ H => ∃ PR κ g e OI SI out, Ent Γ PR F.κ0 F.H0 F.S0 κ H g OI SI ∧ EnvO Γ κ H σ e OI SI ∧ xs1 T.Φ T.rl st e g = some out ∧ Post Γ F PR D out
def tSts (Γ : Gam) (T : Tab) (F : Fr) (st : List St) : TS := fun D σ H => ∃ PR κ g e OI SI out, Ent Γ PR F.κ0 F.H0 F.S0 κ H g OI SI ∧ EnvO Γ κ H σ e OI SI ∧ xss T.Φ T.rl st e g = some out ∧ Post Γ F PR D out
section
variable {Γ : Gam} {F : Fr} {PR : Pr} {T : Tab} {κ κ0 κ1 κ2 κ3 : List Addr} {H H0 H1 H2 H3 : Hp} {g g1 g2 : G} {SI OI OI' SI' : Nat → List Addr} {I J : List Nat} {O1 O2 S0 S1 S2 O S : List Addr} {σ : L2.St} {e : Env2} {n : Nat} {X : Cx} {m m' : Ex} {ms : List Ex} {pos : Pos} {x : Expr} {es : List Expr} {a b : List Stmt} {st : Stmt} {sts : List Stmt} {ma mb : List St} {s1 : St}
theorem PSs.imp {t t' : TS} (h : PSs X sts t) (i : ∀ D σ H, t' D σ H → t D σ H) : PSs X sts t' := ⟨fun pins s σ H D I q => h.run pins s σ H D I (i D σ H q)⟩
/-- a return's step -/
theorem Ent.out (t : Ent Γ PR κ0 H0 S0 κ H g OI SI) (s : Step Γ κ H (both OI SI) I κ1 H1 g1 O S) : Step Γ κ0 H0 (fun _ => S0) [0] κ1 H1 g1 O S :=
  ⟨t.ext.trans t.kx s.ext, t.kx.trans s.kx (fun a h => t.dom h), s.cr, s.nd, fun a h => t.dom (s.fr a h), fun a h => (t.al1 s a h).imp id fun h => ⟨0, by simp, h⟩, s.ap⟩
theorem s_nev : PS X st (tSt (gam X) T F .nev) := PS.imp ps_never fun D σ H ⟨PR, κ, g, e, OI, SI, out, _, _, q, _⟩ => by rw [xs1] at q; cases q
theorem s_pas : PS X (.Pass pos) (tSt (gam X) T F .pas) := PS.imp ps_pass fun D σ H ⟨PR, κ, g, e, OI, SI, out, t, r, q, k⟩ => by
  rw [xs1] at q
  cases q
  exact k σ H κ OI SI t r
theorem s_doc {y j p} : PS X (.Expr (.Constant (.str y) j p) pos) (tSt (gam X) T F .pas) := PS.imp ps_doc fun D σ H ⟨PR, κ, g, e, OI, SI, out, t, r, q, k⟩ => by
  rw [xs1] at q
  cases q
  exact k σ H κ OI SI t r
theorem s_ret (h : PE X x (tX (gam X) T m)) (hl : F.lvl ≤ own T.rl m) : PS X (.Return (some x) pos) (tSt (gam X) T F (.ret m)) := PS.imp (ps_ret h) fun D σ H ⟨PR, κ, g, e, OI, SI, out, t, r, q, k⟩ => by
  rw [xs1] at q
  obtain ⟨⟨d, g1⟩, e1, q⟩ := mpd q
  cases q
  refine ⟨κ, g, vw e, both OI SI, t.cr, r.env t.cr.cl, d, g1, e1, fun v H' κ' O S s q1 => ?_⟩
  obtain ⟨O', S', q', l⟩ := Rep.less F.lvl q1 hl
  exact k v H' κ' O' S' ((t.out s).sub l) q'
theorem s_if {c : Expr} {mc : Ex} (hc : PT X c (tT (gam X) T mc)) (ha : PSs X a (tSts (gam X) T F ma)) (hb : PSs X b (tSts (gam X) T F mb)) : PS X (.If c a b pos) (tSt (gam X) T F (.ife mc ma mb)) := PS.imp (ps_if hc ha hb) fun D σ H ⟨PR, κ, g, e, OI, SI, out, t, r, q, k⟩ => by
  rw [xs1] at q
  obtain ⟨⟨d, g1⟩, e1, q⟩ := bnd q
  obtain ⟨bb, e2, q⟩ := bnd q
  refine ⟨κ, g, vw e, both OI SI, t.cr, r.env t.cr.cl, d, g1, bb, e1, e2, fun H' κ' s => ?_⟩
  have t' := t.step s
  have r' := r.mono t.cr.cl s.ext s.kx
  cases bb with
  | true => exact ⟨PR, κ', g1, e, OI, SI, out, t', r', q, k⟩
  | false => exact ⟨PR, κ', g1, e, OI, SI, out, t', r', q, k⟩
theorem ss_nil : PSs X [] (tSts (gam X) T F []) := PSs.imp pss_nil fun D σ H ⟨PR, κ, g, e, OI, SI, out, t, r, q, k⟩ => by
  rw [xss] at q
  cases q
  exact k σ H κ OI SI t r
theorem ss_cons (h : PS X st (tSt (gam X) T F s1)) (h' : PSs X sts (tSts (gam X) T F ma)) : PSs X (st :: sts) (tSts (gam X) T F (s1 :: ma)) := PSs.imp (pss_cons h h') fun D σ H ⟨PR, κ, g, e, OI, SI, out, t, r, q, k⟩ => by
  rw [xss] at q
  obtain ⟨o, e1, q⟩ := bnd q
  refine ⟨PR, κ, g, e, OI, SI, o, t, r, e1, ?_⟩
  cases o with
  | nx e' g' => exact fun σ' H' κ' OI' SI' t' r' => ⟨PR, κ', g', e', OI', SI', out, t', r', q, k⟩
  | rt d g' => cases q; exact k
  | bk e' g' => cases q; exact k
  | ct e' g' => cases q; exact k
/-! ### a name takes a value -/
theorem set_run (t : Ent Γ PR κ0 H0 S0 κ H g OI SI) (r : EnvO Γ κ H σ e OI SI) {i : Nat} (hi : i < e.length) {v : V} {d : D} (s : Step Γ κ H (both OI SI) (nms m) κ1 H1 g1 O S) (q : Rep Γ κ1 H1 n v d O S) :
    ∃ OI' SI', Ent Γ PR κ0 H0 S0 κ1 H1 g1 OI' SI' ∧ EnvO Γ κ1 H1 (σ.set i (some v)) (setV e i m n d) OI' SI' := by
  have t1 := t.step s
  have r1 := r.mono t.cr.cl s.ext s.kx
  have dm := r.dom t.cr.cl
  have hO : ∀ j a, a ∈ O → a ∉ both OI SI j := fun j a h z => by
    obtain ⟨o, e⟩ := dm j a z
    rw [s.fr a h] at e; cases e
  have hP : ∀ p ∈ PR, ∀ a ∈ O, a ∉ p.2.2 := fun p hp a h z => by
    obtain ⟨o, e⟩ := t.pd p hp a z
    rw [s.fr a h] at e; cases e
  unfold setV
  split
  · rename_i hw
    obtain ⟨h1, h2⟩ := Bool.and_eq_true_iff.mp hw
    obtain ⟨hS, _⟩ := q.more n (of_decide_eq_true h2) (of_decide_eq_true h1)
    subst hS
    exact ⟨_, _, t1.put (S := []) (fun a h => t.dom (s.fr a h)) (fun _ h => nomatch h) hP, r1.put (S := []) q hi s.nd hO (fun _ _ _ z => nomatch z) (fun _ _ z => nomatch z)⟩
  · obtain ⟨OI', SI', r2, gv, hz⟩ := frz_ok (nms m) r1
    have t2 := t1.given gv
    have hlen : ∀ (is : List Nat) (e : Env2), (frz e is).length = e.length := by
      intro is
      induction is with
      | nil => intro e; rfl
      | cons j is ih =>
        intro e
        rw [frz, ih]
        split
        · rw [List.length_set]
        · rfl
    refine ⟨_, _, t2.put (fun a h => t.dom (s.fr a h)) (t.al1 s) hP, r2.put q (by rw [hlen]; exact hi) s.nd (fun j a h z => ?_) (fun j a h z => ?_) (fun a h z => s.ap a z h)⟩
    · rcases List.mem_append.mp z with z | z
      · exact hO j a h (List.mem_append_left _ (gv.own j a z))
      · exact hO j a h (gv.sh j a z)
    · have hj := gv.own j a h
      obtain ⟨o, ho⟩ := dm j a (List.mem_append_left _ hj)
      rcases s.al a z with y | ⟨l, hl, y⟩
      · rw [ho] at y; cases y
      · rcases List.mem_append.mp y with y | y
        · by_cases hjl : j = l
          · subst hjl
            rw [hz j hl] at h; cases h
          · exact r.dj j l a hjl hj y
        · exact r.ap j l a hj y
theorem s_set {i : Nat} {y : Str} {py : Pos} (h : PE X x (tX (gam X) T m)) (hN : X.N.Nodup) (hi : X.N[i]? = some y) (hl : Loc X.env.scope y) (hf : X.fn y = true ∨ X.env.scope.names.lookup y = some .local) (hs : swapsWith x (some (.Name y py)) pos.line X.env = pure false) :
    PS X (.Assign [.Name y py] x pos) (tSt (gam X) T F (.set i m)) := PS.imp (ps_set hN hi hl h hs hf) fun D σ H ⟨PR, κ, g, e, OI, SI, out, t, r, q, k⟩ => by
  rw [xs1] at q
  obtain ⟨⟨d, g1⟩, e1, q⟩ := bnd q
  split at q
  case isFalse => cases q
  rename_i hlt
  cases q
  refine ⟨κ, g, vw e, both OI SI, t.cr, r.env t.cr.cl, d, g1, e1, fun v H' κ' O S s q1 => ?_⟩
  obtain ⟨OI', SI', t', r'⟩ := set_run t r hlt s q1
  exact k _ H' κ' OI' SI' t' r'
/-- .. where a comprehension stores it itself -/
theorem s_setLc {i : Nat} {y : Str} {py p2 : Pos} {elt tg iter : Expr} {ifs : List Expr} {scope : Scope} {t : Tg} {k : ItK} {ies mifs : List Ex} {melt : Ex} (hc : X.calm = true) (hN : X.N.Nodup) (hy : X.N[i]? = some y) (hl : X.env.scope.names.lookup y = some .local)
    (hsw : swapsWith (.ListComp elt [⟨tg, iter, ifs, 0⟩] scope p2) (some (.Name y py)) pos.line X.env = pure true) (hi : PI X tg iter (tI (gam X) T k ies)) (ok : BlkOk X.N X.env.scope scope (ownOf X.N (slots t)))
    (hg : ∀ (s : Shared) (H : Hp) (C : Addr) (cl : List (Str × Addr)) (fp : List Addr), PG (X.blk s H scope (compEnvC scope cl C X.env) fp) tg (gT X.K t))
    (ht : ∀ (s : Shared) (H : Hp) (C : Addr) (cl : List (Str × Addr)) (fp : List Addr), PTs (X.blk s H scope (compEnvC scope cl C X.env) fp) ifs (tB2 (gam X) T true mifs))
    (he : ∀ (s : Shared) (H : Hp) (C : Addr) (cl : List (Str × Addr)) (fp : List Addr), PE (X.blk s H scope (compEnvC scope cl C X.env) fp) elt (tX (gam X) T melt)) (hs : ∀ x, foldedSetIterable iter X.env x = pure x) :
    PS X (.Assign [.Name y py] (.ListComp elt [⟨tg, iter, ifs, 0⟩] scope p2) pos) (tSt (gam X) T F (.set i (.lc t k ies mifs melt))) := PS.imp (ps_setLc hc hN hy hl hsw hi ok hg ht he hs) fun D σ H ⟨PR, κ, g, e, OI, SI, out, tt, r, q, kk⟩ => by
  rw [own_slots]
  rw [xs1] at q
  obtain ⟨⟨d, g1⟩, e1, q⟩ := bnd q
  split at q
  case isFalse => cases q
  rename_i hlt
  cases q
  refine lc_read ⟨κ, g, vw e, both OI SI, tt.cr, r.env tt.cr.cl, d, g1, e1, fun v H' κ' O S s q1 => ?_⟩
  obtain ⟨OI', SI', t', r'⟩ := set_run tt r hlt s q1
  exact kk _ H' κ' OI' SI' t' r'
/-! ### several names at once -/
theorem puts_run : ∀ {is : List Nat} {ds : List VL.D} {vs : List V} {σ : L2.St} {e : Env2} {OI SI : Nat → List Addr} {O S : List Addr}, Ent Γ PR κ0 H0 S0 κ H g OI SI → EnvO Γ κ H σ e OI SI → RepL Γ κ H n vs ds O S → ds.length = is.length → is.all (fun i => decide (i < e.length)) = true → O.Nodup →
    (∀ j a, a ∈ O → a ∉ both OI SI j) → (∀ j a, a ∈ OI j → a ∉ S) → (∀ a ∈ O, a ∉ S) → (∀ a ∈ O, H0 a = none) → (∀ a ∈ S, H0 a = none ∨ a ∈ S0) → (∀ p ∈ PR, ∀ a ∈ O, a ∉ p.2.2) →
    ∃ OI' SI', Ent Γ PR κ0 H0 S0 κ H g OI' SI' ∧ EnvO Γ κ H ((is.zip vs).foldl (fun σ p => σ.set p.1 (some p.2)) σ) ((is.zip ds).foldl (fun e p => e.set p.1 (some (p.2, n))) e) OI' SI'
  | [], [], vs, σ, e, OI, SI, O, S, t, r, q, hl, hi, nd, hO, hS, hOS, h0, hal, hP => by
    cases q
    exact ⟨OI, SI, t, r⟩
  | i :: is, d :: ds, vs, σ, e, OI, SI, O, S, t, r, q, hl, hi, nd, hO, hS, hOS, h0, hal, hP => by
    cases q with
    | @cons _ v vs' _ _ O1 O2 S1 S2 q1 q2 =>
      rw [List.all_cons] at hi
      obtain ⟨hi1, hi2⟩ := Bool.and_eq_true_iff.mp hi
      obtain ⟨n1, n2, n3⟩ := List.nodup_append.mp nd
      have r1 := r.put q1 (of_decide_eq_true hi1) n1 (fun j a h => hO j a (List.mem_append_left _ h)) (fun j a h z => hS j a h (List.mem_append_left _ z)) (fun a h z => hOS a (List.mem_append_left _ h) (List.mem_append_left _ z))
      have t1 := t.put (i := i) (fun a h => h0 a (List.mem_append_left _ h)) (fun a h => hal a (List.mem_append_left _ h)) (fun p hp a h => hP p hp a (List.mem_append_left _ h))
      refine puts_run (is := is) (ds := ds) t1 r1 q2 (by simpa using hl) (by rw [List.length_set]; exact hi2) n2 (fun j a h z => ?_) (fun j a h z => ?_) (fun a h z => hOS a (List.mem_append_right _ h) (List.mem_append_right _ z)) (fun a h => h0 a (List.mem_append_right _ h)) (fun a h => hal a (List.mem_append_right _ h)) (fun p hp a h => hP p hp a (List.mem_append_right _ h))
      · unfold both upN at z
        split at z
        · rcases List.mem_append.mp z with z | z
          · exact n3 a z a h rfl
          · exact hOS a (List.mem_append_right _ h) (List.mem_append_left _ z)
        · exact hO j a (List.mem_append_right _ h) z
      · unfold upN at h
        split at h
        · exact hOS a (List.mem_append_left _ h) (List.mem_append_right _ z)
        · exact hS j a h (List.mem_append_right _ z)
  | [], _ :: _, _, _, _, _, _, _, _, _, _, _, hl, _, _, _, _, _, _, _, _ => by simp at hl
  | _ :: _, [], _, _, _, _, _, _, _, _, _, _, hl, _, _, _, _, _, _, _, _ => by simp at hl
theorem frz_len : ∀ (is : List Nat) (e : Env2), (frz e is).length = e.length := by
  intro is
  induction is with
  | nil => intro e; rfl
  | cons j is ih =>
    intro e
    rw [frz, ih]
    split
    · rw [List.length_set]
    · rfl
theorem wholes {n : Nat} {vs : List V} {ds : List VL.D} {O S : List Addr} (q : RepL Γ κ H n vs ds O S) (h : ds.all (whole n) = true) : S = [] := by
  induction ds generalizing vs O S with
  | nil => cases q; rfl
  | cons d ds ih =>
    rw [List.all_cons] at h
    obtain ⟨h1, h2⟩ := Bool.and_eq_true_iff.mp h
    cases q with
    | cons q1 q2 =>
      obtain ⟨a, b⟩ := Bool.and_eq_true_iff.mp h1
      rw [(q1.more n (of_decide_eq_true b) (of_decide_eq_true a)).1, ih q2 h2]; rfl
theorem sets_run (t : Ent Γ PR κ0 H0 S0 κ H g OI SI) (r : EnvO Γ κ H σ e OI SI) {is : List Nat} (hi : is.all (fun i => decide (i < e.length)) = true) {vs : List V} {ds : List VL.D} (hl : ds.length = is.length) (s : Step Γ κ H (both OI SI) (nmss ms) κ1 H1 g1 O S) (q : RepL Γ κ1 H1 n vs ds O S) :
    ∃ OI' SI', Ent Γ PR κ0 H0 S0 κ1 H1 g1 OI' SI' ∧ EnvO Γ κ1 H1 ((is.zip vs).foldl (fun σ p => σ.set p.1 (some p.2)) σ) (setVs e is ms n ds) OI' SI' := by
  have t1 := t.step s
  have r1 := r.mono t.cr.cl s.ext s.kx
  have dm := r.dom t.cr.cl
  have hO : ∀ j a, a ∈ O → a ∉ both OI SI j := fun j a h z => by
    obtain ⟨o, e⟩ := dm j a z
    rw [s.fr a h] at e; cases e
  have hP : ∀ p ∈ PR, ∀ a ∈ O, a ∉ p.2.2 := fun p hp a h z => by
    obtain ⟨o, e⟩ := t.pd p hp a z
    rw [s.fr a h] at e; cases e
  unfold setVs
  split
  · rename_i hw
    have hS := wholes q hw
    subst hS
    exact puts_run t1 r1 q hl hi s.nd hO (fun _ _ _ z => nomatch z) (fun _ _ z => nomatch z) (fun a h => t.dom (s.fr a h)) (fun _ h => nomatch h) hP
  · obtain ⟨OI', SI', r2, gv, hz⟩ := frz_ok (nmss ms) r1
    have t2 := t1.given gv
    refine puts_run t2 r2 q hl (by rw [frz_len]; exact hi) s.nd (fun j a h z => ?_) (fun j a h z => ?_) (fun a h z => s.ap a z h) (fun a h => t.dom (s.fr a h)) (t.al1 s) hP
    · rcases List.mem_append.mp z with z | z
      · exact hO j a h (List.mem_append_left _ (gv.own j a z))
      · exact hO j a h (gv.sh j a z)
    · have hj := gv.own j a h
      obtain ⟨o, ho⟩ := dm j a (List.mem_append_left _ hj)
      rcases s.al a z with y | ⟨l, hl, y⟩
      · rw [ho] at y; cases y
      · rcases List.mem_append.mp y with y | y
        · by_cases hjl : j = l
          · subst hjl
            rw [hz j hl] at h; cases h
          · exact r.dj j l a hjl hj y
        · exact r.ap j l a hj y
theorem s_par {i j : Nat} {y z : Str} {x1 x2 : Expr} {py pz pt : Pos} {kt k2 pt2} {m1 m2 : Ex} (hc : X.calm = true) (hN : X.N.Nodup) (hi : X.N[i]? = some y) (hj : X.N[j]? = some z) (hij : i ≠ j) (hy : X.env.scope.names.lookup y = some .local) (hz : X.env.scope.names.lookup z = some .local)
    (ha : PA X [x1, x2] (tXs (gam X) T [m1, m2])) (hw : swappedStores [.Tuple [.Name y py, .Name z pz] kt pt] (.Tuple [x1, x2] k2 pt2) X.env = pure (some [y, z])) :
    PS X (.Assign [.Tuple [.Name y py, .Name z pz] kt pt] (.Tuple [x1, x2] k2 pt2) pos) (tSt (gam X) T F (.par [i, j] [m1, m2])) := PS.imp (ps_par hc hN hi hj hij hy hz ha hw rfl) fun D σ H ⟨PR, κ, g, e, OI, SI, out, t, r, q, k⟩ => by
  rw [xs1] at q
  obtain ⟨⟨ds, g1⟩, e1, q⟩ := bnd q
  split at q
  case isFalse => cases q
  rename_i hh
  cases q
  refine ⟨κ, g, vw e, both OI SI, t.cr, r.env t.cr.cl, ds, g1, e1, fun vs H' κ' O S s q1 => ?_⟩
  obtain ⟨OI', SI', t', r'⟩ := sets_run t r hh.2 hh.1 s q1
  have hl : vs.length = 2 := by rw [q1.len]; exact hh.1
  match vs, hl with
  | [v, w], _ => exact ⟨v, w, rfl, k _ H' κ' OI' SI' t' r'⟩
theorem s_par3 {i j l : Nat} {y z u : Str} {x1 x2 x3 : Expr} {py pz pu pt : Pos} {kt k2 pt2} {m1 m2 m3 : Ex} (hc : X.calm = true) (hN : X.N.Nodup) (hi : X.N[i]? = some y) (hj : X.N[j]? = some z) (hl : X.N[l]? = some u) (hij : i ≠ j) (hil : i ≠ l) (hjl : j ≠ l)
    (hy : X.env.scope.names.lookup y = some .local) (hz : X.env.scope.names.lookup z = some .local) (hu : X.env.scope.names.lookup u = some .local)
    (ha : PA X [x1, x2, x3] (tXs (gam X) T [m1, m2, m3])) (hw : swappedStores [.Tuple [.Name y py, .Name z pz, .Name u pu] kt pt] (.Tuple [x1, x2, x3] k2 pt2) X.env = pure (some [y, z, u])) :
    PS X (.Assign [.Tuple [.Name y py, .Name z pz, .Name u pu] kt pt] (.Tuple [x1, x2, x3] k2 pt2) pos) (tSt (gam X) T F (.par [i, j, l] [m1, m2, m3])) := PS.imp (ps_par3 hc hN hi hj hl hij hil hjl hy hz hu ha hw rfl) fun D σ H ⟨PR, κ, g, e, OI, SI, out, t, r, q, k⟩ => by
  rw [xs1] at q
  obtain ⟨⟨ds, g1⟩, e1, q⟩ := bnd q
  split at q
  case isFalse => cases q
  rename_i hh
  cases q
  refine ⟨κ, g, vw e, both OI SI, t.cr, r.env t.cr.cl, ds, g1, e1, fun vs H' κ' O S s q1 => ?_⟩
  obtain ⟨OI', SI', t', r'⟩ := sets_run t r hh.2 hh.1 s q1
  have hl : vs.length = 3 := by rw [q1.len]; exact hh.1
  match vs, hl with
  | [v, w, w'], _ => exact ⟨v, w, w', rfl, k _ H' κ' OI' SI' t' r'⟩
/-! ### a loop -/
theorem names_run2 {Q : L2.St → Hp → Prop} : ∀ {is : List Nat} {vs : List V} {σ : L2.St}, vs.length = is.length → Q ((is.zip vs).foldl (fun σ p => σ.set p.1 (some p.2)) σ) H → gNames is vs σ H Q
  | [], [], σ, _, h => ⟨rfl, h⟩
  | i :: is, v :: vs, σ, hl, h => ⟨v, vs, rfl, names_run2 (is := is) (by simpa using hl) h⟩
theorem target2 {Q : L2.St → Hp → Prop} {tg : Tg} {v : V} {d : VL.D} {e' : Env2} (t : Ent Γ PR κ0 H0 S0 κ H g OI SI) (r : EnvO Γ κ H σ e OI SI) (q : Rep Γ κ H 0 v d [] S) (hb : bind2 tg d e = some e') (hS : ∀ j a, a ∈ OI j → a ∉ S) (hal : ∀ a ∈ S, H0 a = none ∨ a ∈ S0)
    (k : ∀ σ' OI' SI', Ent Γ PR κ0 H0 S0 κ H g OI' SI' → EnvO Γ κ H σ' e' OI' SI' → Q σ' H) : gT Γ.K tg v σ H Q := by
  cases tg with
  | nm i =>
    simp only [bind2] at hb
    split at hb
    · rename_i hi
      cases hb
      exact k _ _ _ (t.put (i := i) (O := []) (fun _ h => nomatch h) hal (fun _ _ _ h => nomatch h)) (r.put q hi List.nodup_nil (fun _ _ h => nomatch h) hS (fun _ h => nomatch h))
    · cases hb
  | tp is =>
    cases d with
    | tup xs =>
      simp only [bind2] at hb
      split at hb
      · rename_i hl
        cases hb
        cases q with
        | tup ha q1 =>
          obtain ⟨OI', SI', t', r'⟩ := puts_run t r q1 hl.1 hl.2 List.nodup_nil (fun _ _ h => nomatch h) hS (fun _ h => nomatch h) (fun _ h => nomatch h) hal (fun _ _ _ h => nomatch h)
          have hv : _ = is.length := (q1.len).trans hl.1
          exact ⟨_, _, rfl, ha, hv, names_run2 hv (k _ OI' SI' t' r')⟩
      · cases hb
    | _ => simp [bind2] at hb
theorem Keeps.refl {F : Addr → Prop} : Keeps κ H κ H F := ⟨fun _ _ e _ _ => e, .refl, fun _ h => h⟩
theorem s_for {tg iter : Expr} {tt : Tg} {k : ItK} {ies : List Ex} (hp : PassesOwn (model X.prog X.w) X.A X.env X.xe) (hc : X.calm = true) (hi : PI X tg iter (tI (gam X) T k ies)) (hg : PG X tg (gT X.K tt)) (hb : PSs X sts (tSts (gam X) T F ma)) (hs : ∀ x, foldedSetIterable iter X.env x = pure x) :
    PS X (.For tg iter sts [] pos) (tSt (gam X) T F (.fr tt k ies ma)) := PS.imp (ps_for hp hc hi hg hb hs) fun D σ H ⟨PR, κ, g, e, OI, SI, out, t, r, q, kk⟩ => by
  rw [xs1] at q
  obtain ⟨⟨ds, g1⟩, e1, q⟩ := bnd q
  obtain ⟨xs, e2, q⟩ := bnd q
  dsimp only at e2 q
  refine ⟨κ, g, vw e, both OI SI, t.cr, r.env t.cr.cl, ds, g1, xs, e1, e2, fun J H1 κ1 S s1 dm it => ?_⟩
  have t1 := t.step s1
  have r1 := r.mono t.cr.cl s1.ext s1.kx
  have dmr := r.dom t.cr.cl
  obtain ⟨OI1, SI1, r2, gv, hz⟩ := frz_ok (nmss ies) r1
  have t2 := t1.given gv
  have hoS : ∀ j a, a ∈ OI1 j → a ∉ S := fun j a h z => by
    have hj := gv.own j a h
    obtain ⟨o, ho⟩ := dmr j a (List.mem_append_left _ hj)
    rcases s1.al a z with y | ⟨l, hl, y⟩
    · rw [ho] at y; cases y
    · rcases List.mem_append.mp y with y | y
      · by_cases hjl : j = l
        · subst hjl
          rw [hz j hl] at h; cases h
        · exact r.dj j l a hjl hj y
      · exact r.ap j l a hj y
  have halS := t.al1 s1
  have t3 : Ent (gam X) ((κ1, H1, S) :: PR) F.κ0 F.H0 F.S0 κ1 H1 g1 OI1 SI1 := ⟨t2.ext, t2.kx, t2.cr, t2.fr, t2.al, fun p hp => by
    rcases List.mem_cons.mp hp with rfl | hp
    · exact .refl
    · exact t2.pr p hp, fun p hp => by
    rcases List.mem_cons.mp hp with rfl | hp
    · exact hoS
    · exact t2.po p hp, fun p hp => by
    rcases List.mem_cons.mp hp with rfl | hp
    · exact dm
    · exact t2.pd p hp⟩
  generalize hf : (fun (x : VL.D) (e : Env2) (g : G) => (bind2 tt x e).bind fun e => xss T.Φ T.rl ma e g) = f at q
  refine ⟨fun i mm σ H => mm = xs.length - i ∧ i ≤ xs.length ∧ ∃ κ' g' e' OI' SI', Ent (gam X) ((κ1, H1, S) :: PR) F.κ0 F.H0 F.S0 κ' H g' OI' SI' ∧ EnvO (gam X) κ' H σ e' OI' SI' ∧ forLoop f (xs.drop i) e' g' = some out,
    ⟨xs.length, by simp, Nat.zero_le _, κ1, g1, _, OI1, SI1, t3, r2, q⟩, ?_⟩
  rintro i mm σ2 H2 ⟨rfl, hle, κ2, g2, e2', O2, S2, te, re, hl⟩
  have kp := te.pr _ List.mem_cons_self
  have less : ∀ {κ' H' g' OI' SI'}, Ent (gam X) ((κ1, H1, S) :: PR) F.κ0 F.H0 F.S0 κ' H' g' OI' SI' → Ent (gam X) PR F.κ0 F.H0 F.S0 κ' H' g' OI' SI' := fun {κ' H' g' OI' SI'} t => ⟨t.ext, t.kx, t.cr, t.fr, t.al, fun p hp => t.pr p (List.mem_cons_of_mem _ hp), fun p hp => t.po p (List.mem_cons_of_mem _ hp), fun p hp => t.pd p (List.mem_cons_of_mem _ hp)⟩
  by_cases hlt : i < xs.length
  case neg =>
    have hi' : i = xs.length := by omega
    subst hi'
    rw [List.drop_length] at hl
    cases hl
    exact .inl ⟨(it κ2 H2 kp xs.length).2 (Nat.le_refl _), kk σ2 H2 κ2 O2 S2 (less te) re⟩
  case pos =>
    have hx : xs[i]? = some xs[i] := List.getElem?_eq_getElem hlt
    obtain ⟨hgo, hy⟩ := (it κ2 H2 kp i).1 _ hx
    rw [List.drop_eq_getElem_cons hlt] at hl
    simp only [forLoop] at hl
    obtain ⟨o, f1, hl⟩ := bnd hl
    rw [← hf] at f1
    obtain ⟨e3, b1, b2⟩ := bnd f1
    refine .inr ⟨hgo, fun σ' H' => ∃ m', m' < xs.length - i ∧ _, fun σ' H' h => h, fun x H3 hyl => ?_⟩
    obtain ⟨gr, S', qx, hS'⟩ := hy x H3 hyl
    have both3 : Ent (gam X) ((κ1, H1, S) :: PR) F.κ0 F.H0 F.S0 κ2 H3 g2 O2 S2 ∧ EnvO (gam X) κ2 H3 σ2 e2' O2 S2 := by
      rcases gr with rfl | ⟨p, vs, hp, rfl⟩
      · exact ⟨te, re⟩
      · have sp : Step (gam X) κ2 H2 (both O2 S2) [] κ2 (upd H2 p (.tup vs)) g2 [] [] := (Step.refl te.cr).put hp
        exact ⟨te.step sp, re.mono te.cr.cl sp.ext sp.kx⟩
    obtain ⟨te3, re3⟩ := both3
    refine target2 (Γ := gam X) te3 re3 qx b1 (fun j a h z => te.po _ List.mem_cons_self j a h (hS' a z)) (fun a h => halS a (hS' a h)) fun σ' OI' SI' t' r' => ?_
    refine ⟨(κ1, H1, S) :: PR, κ2, g2, e3, OI', SI', o, t', r', b2, ?_⟩
    cases o with
    | nx e4 g4 => exact fun σ5 H5 κ5 O5 S5 t5 r5 => ⟨xs.length - (i + 1), by omega, rfl, hlt, κ5, g4, e4, O5, S5, t5, r5, hl⟩
    | ct e4 g4 => exact fun σ5 H5 κ5 O5 S5 t5 r5 => ⟨xs.length - (i + 1), by omega, rfl, hlt, κ5, g4, e4, O5, S5, t5, r5, hl⟩
    | bk e4 g4 =>
      cases hl
      exact fun σ5 H5 κ5 O5 S5 t5 r5 => kk σ5 H5 κ5 O5 S5 (less t5) r5
    | rt d g4 =>
      cases hl
      exact kk
end
end VL
/-! V18: cells written, results, defs. -/
namespace VL
open PySem L2 PyProof.Rows
section
variable {Γ : Gam} {F : Fr} {PR : Pr} {T : Tab} {κ κ0 κ1 κ2 κ3 : List Addr} {H H0 H1 H2 H3 : Hp} {g g1 g2 : G} {SI OI OI' SI' : Nat → List Addr} {I J : List Nat} {O1 O2 S0 S1 S2 O S : List Addr} {σ : L2.St} {e : Env2} {n : Nat} {X : Cx} {m m' : Ex} {ms : List Ex} {pos : Pos} {x : Expr} {es : List Expr} {a b : List Stmt} {st : Stmt} {sts : List Stmt} {ma mb : List St} {s1 : St}
theorem RepL.setAt' {v : V} {d : VL.D} (q : Rep Γ κ H 0 v d [] []) : ∀ {vs : List V} {ds : List VL.D} {O S : List Addr}, RepL Γ κ H 0 vs ds O S → ∀ i, ∃ S', RepL Γ κ H 0 (vs.set i v) (ds.set i d) [] S' ∧ ∀ a ∈ S', a ∈ S
  | _, _, _, _, .nil, i => ⟨[], .nil, fun _ h => h⟩
  | _, _, _, _, .cons r1 r2, 0 => by
    obtain ⟨S', r3, h3⟩ := RepL.cut r2 none none
    cases r2.own0
    exact ⟨_, RepL.cons (O1 := []) (S1 := []) q r2, fun a h => List.mem_append_right _ h⟩
  | _, _, _, _, .cons r1 r2, i + 1 => by
    obtain ⟨S', r3, h3⟩ := RepL.setAt' q r2 i
    cases r1.own0
    exact ⟨_, RepL.cons (O1 := []) r1 r3, fun a h => (List.mem_append.mp h).elim (fun h => List.mem_append_left _ h) fun h => List.mem_append_right _ (h3 a h)⟩
theorem RepL.setAt {vs : List V} {ds : List VL.D} (r : RepL Γ κ H 0 vs ds [] []) {v : V} {d : VL.D} (q : Rep Γ κ H 0 v d [] []) (i : Nat) : RepL Γ κ H 0 (vs.set i v) (ds.set i d) [] [] := by
  obtain ⟨S', a, b⟩ := RepL.setAt' q r i
  have : S' = [] := List.eq_nil_iff_forall_not_mem.mpr fun x h => nomatch b x h
  subst this
  exact a
/-- a cell is written -/
theorem cell_write (t : Ent Γ PR κ0 H0 S0 κ H g OI SI) (r : EnvO Γ κ H σ e OI SI) {c i : Nat} {p : Addr} {ds : List VL.D} {vs : List V} {j : Int} (hp : κ[c]? = some p) (hg : (g : List (List VL.D))[c]? = some ds) (hH : H p = some (.lst vs)) :
    Ent Γ PR κ0 H0 S0 κ (upd H p (.lst (vs.set i (.int j)))) (g.set c (ds.set i (.int j))) OI SI ∧ EnvO Γ κ (upd H p (.lst (vs.set i (.int j)))) σ e OI SI := by
  have hm : ∀ u, H p = some u → imm u = false := fun u h => by rw [hH] at h; cases h; rfl
  have hk : p ∈ κ := List.mem_of_getElem? hp
  have kw : Keeps κ H κ (upd H p (.lst (vs.set i (.int j)))) (fun a => a ≠ p) := Keeps.upd hm
  have nk : ∀ {κ1 : List Addr} {H1 : Hp} {a : Addr} {o : HO}, KExt κ1 κ H1 → H1 a = some o → a ∉ κ1 → a ≠ p := fun {κ1 H1 a o} k h n z => by
    subst z
    rcases k.2 a hk with q | q
    · exact n q
    · rw [h] at q; cases q
  have ne : ∀ {n : Nat} {v : V} {d : VL.D} {O S : List Addr}, Rep Γ κ H n v d O S → (∀ a ∈ O, a ≠ p) ∧ ∀ a ∈ S, a ≠ p := fun q => ⟨fun a h z => ((q.dom t.cr.cl).1 a h).2 (by rw [z]; exact hk), fun a h z => ((q.dom t.cr.cl).2 a h).2 (by rw [z]; exact hk)⟩
  refine ⟨⟨fun a o h n => by rw [upd_ne (nk t.kx h n)]; exact t.ext a o h n, t.kx, ⟨by rw [List.length_set]; exact t.cr.len, t.cr.nd, fun l a ds' h1 h2 => ?_⟩, t.fr, t.al, fun q hq => ?_, t.po, fun q hq a h => ?_⟩, ⟨r.len, fun l d n h => ?_, r.off, r.nd, r.dj, r.ap⟩⟩
  · rw [List.getElem?_set] at h2
    by_cases hcl : c = l
    · subst hcl
      rw [if_pos rfl] at h2
      split at h2
      · cases h2
        rw [hp] at h1
        cases h1
        obtain ⟨vs', e1, q⟩ := t.cr.at_ c p ds hp hg
        rw [hH] at e1
        cases e1
        exact ⟨_, upd_same, (RepL.away kw t.cr.cl q (fun _ z => nomatch z) (fun _ z => nomatch z)).setAt .int i⟩
      · cases h2
    · rw [if_neg hcl] at h2
      obtain ⟨vs', e1, q⟩ := t.cr.at_ l a ds' h1 h2
      have hap : a ≠ p := fun z => by
        subst z
        have l1 := (List.getElem?_eq_some_iff.mp hp).1
        exact hcl ((List.getElem?_inj l1 t.cr.nd).mp (by rw [hp, h1]))
      exact ⟨vs', by rw [upd_ne hap]; exact e1, RepL.away kw t.cr.cl q (fun _ z => nomatch z) (fun _ z => nomatch z)⟩
  · have k := t.pr q hq
    exact ⟨fun a o h n z => by rw [upd_ne (nk k.kx h n)]; exact k.at_ a o h n z, k.kx, fun a h => k.dm a (kw.dm a h)⟩
  · obtain ⟨o, h'⟩ := t.pd q hq a h
    cases z : upd H p (.lst (vs.set i (.int j))) a with
    | some o => exact ⟨o, rfl⟩
    | none => rw [kw.dm a z] at h'; cases h'
  · obtain ⟨v, h1, q⟩ := r.at_ l d n h
    exact ⟨v, h1, Rep.away kw t.cr.cl q (ne q).1 (ne q).2⟩
theorem ixN_in {n i : Nat} (h : i < n) : ixN n (i : Int) = some i := by
  unfold ixN
  first
    | (simp; omega)
    | (split <;> simp_all <;> omega)
theorem swaps_sub {o i : Expr} {p : Pos} {l : Nat} : swapsWithSole [.Subscript o i p] x l X.env = pure false := by
  cases x <;> rfl
theorem swapped_sub {o i : Expr} {p : Pos} : swappedStores [.Subscript o i p] x X.env = pure none := by
  cases x <;> rfl
theorem celD_some {d k v : VL.D} {g g' : G} (h : celD d k v g = some g') : ∃ (c : Nat) (i j : Int) (ds : List VL.D), d = .cel c ∧ k = .int i ∧ v = .int j ∧ (g : List (List VL.D))[c]? = some ds ∧ 0 ≤ i ∧ i.toNat < ds.length ∧ g' = g.set c (ds.set i.toNat (.int j)) := by
  cases d with
  | cel c =>
    cases k with
    | int i =>
      cases v with
      | int j =>
        obtain ⟨ds, h1, h2⟩ := bnd (show ((g : List (List VL.D))[c]?.bind fun xs => if (decide (0 ≤ i) && decide (i.toNat < xs.length)) = true then some (g.set c (xs.set i.toNat (.int j))) else none) = some g' from h)
        split at h2
        · rename_i hh
          simp only [Bool.and_eq_true, decide_eq_true_eq] at hh
          cases h2
          exact ⟨c, i, j, ds, rfl, rfl, rfl, h1, hh.1, hh.2, rfl⟩
        · cases h2
      | _ => cases h
    | _ => cases h
  | _ => cases h
theorem assign_sub {c k : Expr} {p2 : Pos} (hsl : sliceB k = true) : ∀ v, assign (.Subscript c k p2) X.env v = (do
      let ov ← holding [v] (eval c X.env)
      let iv ← holding [v, ov] (eval k X.env)
      standAt p2
      holding [v, ov, iv] (setItem ov iv v)
      release [v, ov, iv] []) := by
  intro v
  cases k <;> first | rfl | cases hsl
theorem s_cst {c k v : Expr} {mc mk mv : Ex} {p2 : Pos} (hsl : sliceB k = true) (hc : PE X c (tX (gam X) T mc)) (hk : PE X k (tX (gam X) T mk)) (hv : PE X v (tX (gam X) T mv)) :
    PS X (.Assign [.Subscript c k p2] v pos) (tSt (gam X) T F (.cst mc mk mv)) := PS.imp (ps_asg hv (pg_sub hc hk set_list (assign_sub hsl)) swaps_sub swapped_sub rfl) fun D σ H ⟨PR, κ, g, e, OI, SI, out, t, r, q, kk⟩ => by
  rw [xs1] at q
  obtain ⟨⟨dv, g1⟩, e1, q⟩ := bnd q
  obtain ⟨⟨dc, g2⟩, e2, q⟩ := bnd q
  obtain ⟨⟨dk, g3⟩, e3, q⟩ := bnd q
  obtain ⟨g4, e4, q⟩ := mpd q
  cases q
  have re := r.env t.cr.cl
  refine run1 t.cr re e1 fun xv H1 κ1 S1 s1 q1 => ?_
  have t1 := t.step s1
  have r1 := r.mono t.cr.cl s1.ext s1.kx
  refine run1 t1.cr (r1.env t1.cr.cl) e2 fun xc H2 κ2 S2 s2 q2 => ?_
  have t2 := t1.step s2
  have r2 := r1.mono t1.cr.cl s2.ext s2.kx
  refine run1 t2.cr (r2.env t2.cr.cl) e3 fun xk H3 κ3 S3 s3 q3 => ?_
  have t3 := t2.step s3
  have r3 := r2.mono t2.cr.cl s3.ext s3.kx
  obtain ⟨c, i, j, ds, rfl, rfl, rfl, e5, h0, h00, rfl⟩ := celD_some e4
  have q1' := (q1.mono s2.ext s1.cl s2.kx).mono s3.ext s2.cl s3.kx
  have q2' := q2.mono s3.ext s2.cl s3.kx
  cases q1'
  cases q2' with
  | cel hp =>
    cases q3
    obtain ⟨vs, hH, qr⟩ := t3.cr.at_ c _ ds hp e5
    obtain ⟨t4, r4⟩ := cell_write (i := i.toNat) (j := j) t3 r3 hp e5 hH
    refine ⟨_, vs, i, i.toNat, rfl, rfl, hH, ?_, kk σ _ κ3 OI SI t4 r4⟩
    have := ixN_in (n := vs.length) (i := i.toNat) (by rw [qr.len]; exact h00)
    rwa [Int.toNat_of_nonneg h0] at this
/-- a result that is a new cell -/
theorem s_retc {k2 : Pos} (h : PA X es (tXs (gam X) T ms)) : PS X (.Return (some (.List es k2)) pos) (tSt (gam X) T F (.retc ms)) := PS.imp (ps_ret (pe_lst h)) fun D σ H ⟨PR, κ, g, e, OI, SI, out, t, r, q, kk⟩ => by
  rw [xs1] at q
  obtain ⟨⟨ds, g1⟩, e1, q⟩ := bnd q
  split at q
  case isFalse => cases q
  rename_i hh
  cases q
  obtain ⟨h1, h2⟩ := Bool.and_eq_true_iff.mp hh
  refine runs t.cr (r.env t.cr.cl) e1 fun vs H1 κ1 S s1 q1 => ⟨by rw [q1.len]; exact sz_line h2, fun p hp => ?_⟩
  have t1 := t.step s1
  have hints : ∀ {vs : List V} {ds : List VL.D} {O S : List Addr}, RepL (gam X) κ1 H1 0 vs ds O S → ds.all (fun d => match d with | .int _ => true | _ => false) = true → ∃ is : List Int, vs = is.map V.int ∧ ds = is.map VL.D.int := by
    intro vs ds
    induction ds generalizing vs with
    | nil => intro O S q _; cases q; exact ⟨[], rfl, rfl⟩
    | cons d ds ih =>
      intro O S q h
      rw [List.all_cons] at h
      obtain ⟨a, b⟩ := Bool.and_eq_true_iff.mp h
      cases q with
      | cons r1 r2 =>
        obtain ⟨is, e1, e2⟩ := ih r2 b
        cases d with
        | int i => cases r1; exact ⟨i :: is, by rw [e1]; rfl, by rw [e2]; rfl⟩
        | _ => cases a
  obtain ⟨is, rfl, rfl⟩ := hints q1 h1
  have hpk : p ∉ κ1 := s1.cl.notin hp
  have kx : KExt κ1 (κ1 ++ [p]) H1 := ⟨List.prefix_append _ _, fun a h => by
    rcases List.mem_append.mp h with h | h
    · exact .inl h
    · rw [List.mem_singleton.mp h]; exact .inr hp⟩
  have cr : CellR (gam X) (κ1 ++ [p]) (upd H1 p (.lst (is.map V.int))) (g1 ++ [is.map VL.D.int]) := by
    refine ⟨by rw [List.length_append, List.length_append, t1.cr.len]; rfl, List.nodup_append.mpr ⟨t1.cr.nd, by simp, fun a h b h' z => ?_⟩, fun i a ds h1 h2 => ?_⟩
    · rw [List.mem_singleton.mp h'] at z
      subst z
      exact hpk h
    · by_cases hi : i < κ1.length
      · rw [List.getElem?_append_left hi] at h1
        rw [List.getElem?_append_left (by rw [← t1.cr.len]; exact hi)] at h2
        obtain ⟨vs', e2, q2⟩ := t1.cr.at_ i a ds h1 h2
        exact ⟨vs', by rw [upd_ne (ne_of_none e2 hp)]; exact e2, q2.mono (ext_upd hp) s1.cl kx⟩
      · have e3 : i = κ1.length := by
          have := (List.getElem?_eq_some_iff.mp h1).1
          rw [List.length_append, List.length_singleton] at this
          omega
        subst e3
        rw [List.getElem?_append_right (Nat.le_refl _), Nat.sub_self] at h1
        rw [List.getElem?_append_right (by rw [← t1.cr.len]; exact Nat.le_refl _), t1.cr.len, Nat.sub_self] at h2
        cases h1
        cases h2
        exact ⟨_, upd_same, .ints is⟩
  refine kk _ _ (κ1 ++ [p]) [] [] ⟨fun a o h n => ?_, t1.kx.trans kx (fun a h => t1.dom h), cr, List.nodup_nil, (fun _ h => nomatch h), (fun _ h => nomatch h), (fun _ h => nomatch h)⟩ ?_
  · have z := t1.ext a o h n
    rw [upd_ne (ne_of_none z hp)]
    exact z
  · refine .cel ?_
    rw [← t1.cr.len, List.getElem?_append_right (Nat.le_refl _), Nat.sub_self]
    rfl
/-- a name's own value as the result -/
theorem s_retv {i l : Nat} {y : Str} {p2 : Pos} (hN : X.N[i]? = some y) (hv : Vis X.env.scope y) (hd : noDb y = true) (hl : F.lvl = l) : PS X (.Return (some (.Name y p2)) pos) (tSt (gam X) T F (.retv i l)) := PS.imp (ps_ret (pe_var hN hv (db_ok hd).1 (db_ok hd).2)) fun D σ H ⟨PR, κ, g, e, OI, SI, out, t, r, q, kk⟩ => by
  rw [xs1] at q
  obtain ⟨⟨d, n⟩, e1, q⟩ := bnd q
  split at q
  case isFalse => cases q
  rename_i hle
  cases q
  have e1 : e[i]? = some (some (d, n)) := by
    cases z : e[i]? with
    | none => rw [z] at e1; cases e1
    | some w => rw [z] at e1; cases w with
      | none => cases e1
      | some w => cases e1; rfl
  obtain ⟨v, h1, q1⟩ := r.at_ i d n e1
  obtain ⟨O', S', q', ls⟩ := Rep.less F.lvl q1 (by rw [hl]; exact hle)
  have st : Step (gam X) F.κ0 F.H0 (fun _ => F.S0) [0] κ H g (OI i) (SI i) := ⟨t.ext, t.kx, t.cr, r.nd i, t.fr i, fun a h => (t.al i a h).imp id fun h => ⟨0, by simp, h⟩, fun a h z => r.ap i i a z h⟩
  exact ⟨v, h1, kk v H κ O' S' (st.sub ls) q'⟩
end
end VL
/-! V19: a def's body is checked against the syntax; soundness; promises. -/
namespace VL
open PySem L2 PyProof.Rows
/-- does a comprehension store its value itself -/
def swV (sc : Scope) (x : Expr) (y : Str) (py : Pos) : Bool := match x with
  | .ListComp _ _ s p => sc.names.lookup y == some .local && py.line == p.line && !(s.names.any fun (n, k) => n == y && (k == .local || k == .cell))
  | .SetComp _ _ s p => sc.names.lookup y == some .local && py.line == p.line && !(s.names.any fun (n, k) => n == y && (k == .local || k == .cell))
  | .DictComp _ _ _ s p => sc.names.lookup y == some .local && py.line == p.line && !(s.names.any fun (n, k) => n == y && (k == .local || k == .cell))
  | _ => false
theorem swV_ok {X : Cx} {x : Expr} {y : Str} {py : Pos} {l : Nat} (hk : X.env.scope.kind = .function) : swapsWith x (some (.Name y py)) l X.env = pure (swV X.env.scope x y py) := by
  have hb : X.env.blockKind = .function := by unfold Env.blockKind; rw [hk]; rfl
  cases x <;> first
    | rfl
    | (simp only [swapsWith, swV, hb, Env.kindOf, Expr.pos]; rfl)
def locB (sc : Scope) (y : Str) : Bool := sc.names.lookup y == some .local || sc.names.lookup y == some .cell
theorem any_st {vs : List Expr} (h : vs.all (fun e => !star e) = true) (f : Expr → Bool) (hf : ∀ x, star x = false → f x = false) : vs.any f = false := by
  rw [List.any_eq_false]
  intro x hx
  have := List.all_eq_true.mp h x hx
  rw [hf x (by simpa using this)]
  simp
theorem sw_par2 {X : Cx} {y z : Str} {py pz pt pt2 : Pos} {kt k2 : Nat} {x1 x2 : Expr} (hk : X.env.scope.kind = .function) (hst : [x1, x2].all (fun e => !star e) = true) (hy : X.env.scope.names.lookup y = some .local) (hz : X.env.scope.names.lookup z = some .local)
    (hl : (pz.line == py.line) = true) (hd : ([y, z].eraseDups.length != 2) = false) (hf : [x1, x2].all (foldedForSure 8) = false) (hc : [x1, x2].all (constantsAlone 8) = false) :
    swappedStores [.Tuple [.Name y py, .Name z pz] kt pt] (.Tuple [x1, x2] k2 pt2) X.env = pure (some [y, z]) := by
  have hb : X.env.blockKind = .function := by unfold Env.blockKind; rw [hk]; rfl
  have ky : X.env.kindOf y = some .local := hy
  have kz : X.env.kindOf z = some .local := hz
  have e0 : (py.line == py.line) = true := beq_self_eq_true _
  unfold swappedStores
  simp only [hb, List.filterMap_cons, List.filterMap_nil, ky, kz, List.head?_cons, Option.map_some, Option.getD_some, Expr.pos]
  rw [any_st hst _ (by intro x h; cases x <;> first | rfl | cases h)]
  simp only [e0, hl, hf, hc, beq_self_eq_true, Bool.and_self, Bool.and_true, if_true, List.length_cons, List.length_nil]
  simp [hd]
theorem sw_par3 {X : Cx} {y z u : Str} {py pz pu pt pt2 : Pos} {kt k2 : Nat} {x1 x2 x3 : Expr} (hk : X.env.scope.kind = .function) (hst : [x1, x2, x3].all (fun e => !star e) = true) (hy : X.env.scope.names.lookup y = some .local) (hz : X.env.scope.names.lookup z = some .local) (hu : X.env.scope.names.lookup u = some .local)
    (hl : (pz.line == py.line) = true) (hl2 : (pu.line == py.line) = true) (hd : ([y, z, u].eraseDups.length != 3) = false) (hf : [x1, x2, x3].all (foldedForSure 8) = false) (hc : [x1, x2, x3].all (constantsAlone 8) = false) :
    swappedStores [.Tuple [.Name y py, .Name z pz, .Name u pu] kt pt] (.Tuple [x1, x2, x3] k2 pt2) X.env = pure (some [y, z, u]) := by
  have hb : X.env.blockKind = .function := by unfold Env.blockKind; rw [hk]; rfl
  have ky : X.env.kindOf y = some .local := hy
  have kz : X.env.kindOf z = some .local := hz
  have ku : X.env.kindOf u = some .local := hu
  have e0 : (py.line == py.line) = true := beq_self_eq_true _
  unfold swappedStores
  simp only [hb, List.filterMap_cons, List.filterMap_nil, ky, kz, ku, List.head?_cons, Option.map_some, Option.getD_some, Expr.pos]
  rw [any_st hst _ (by intro x h; cases x <;> first | rfl | cases h)]
  simp only [e0, hl, hl2, hf, hc, beq_self_eq_true, Bool.and_self, Bool.and_true, if_true, List.length_cons, List.length_nil]
  simp [hd]
/-! ### the checker -/
def parB2 (sc : Scope) (y z : Str) (py pz : Pos) (vs : List Expr) : Bool :=
  vs.all (fun e => !star e) && (sc.names.lookup y == some .local && (sc.names.lookup z == some .local && ((pz.line == py.line) && (([y, z].eraseDups.length == 2) && (!vs.all (foldedForSure 8) && !vs.all (constantsAlone 8))))))
def parB3 (sc : Scope) (y z u : Str) (py pz pu : Pos) (vs : List Expr) : Bool :=
  vs.all (fun e => !star e) && (sc.names.lookup y == some .local && (sc.names.lookup z == some .local && (sc.names.lookup u == some .local && ((pz.line == py.line) && ((pu.line == py.line) && (([y, z, u].eraseDups.length == 3) && (!vs.all (foldedForSure 8) && !vs.all (constantsAlone 8))))))))
def lcB : Ex → Bool
  | .lc _ _ _ _ _ => true
  | _ => false
mutual
def chkS (S : Sc) (rl : Str → Nat) (lvl : Nat) : VL.St → Stmt → Bool
  | .nev, _ => true
  | .pas, s => match s with
    | .Pass _ => true
    | .Expr (.Constant (.str _) _ _) _ => true
    | _ => false
  | .set i m, s => match s with
    | .Assign [.Name y py] x _ => S.N[i]? == some y && (locB S.sc y && ((!swV S.sc x y py || lcB m) && chk false S m x))
    | _ => false
  | .par is ms, s => match is, ms, s with
    | [i, j], [m1, m2], .Assign [.Tuple [.Name y py, .Name z pz] _ _] (.Tuple [x1, x2] _ _) _ => S.N[i]? == some y && (S.N[j]? == some z && (decide (i ≠ j) && (parB2 S.sc y z py pz [x1, x2] && chkL false S [m1, m2] [x1, x2])))
    | [i, j, l], [m1, m2, m3], .Assign [.Tuple [.Name y py, .Name z pz, .Name u pu] _ _] (.Tuple [x1, x2, x3] _ _) _ =>
      S.N[i]? == some y && (S.N[j]? == some z && (S.N[l]? == some u && (decide (i ≠ j) && (decide (i ≠ l) && (decide (j ≠ l) && (parB3 S.sc y z u py pz pu [x1, x2, x3] && chkL false S [m1, m2, m3] [x1, x2, x3]))))))
    | _, _, _ => false
  | .ret m, s => match s with
    | .Return (some x) _ => decide (lvl ≤ own rl m) && chk false S m x
    | _ => false
  | .retv i l, s => match s with
    | .Return (some (.Name y _)) _ => decide (lvl = l) && (S.N[i]? == some y && (visB S.sc y && noDb y))
    | _ => false
  | .retc ms, s => match s with
    | .Return (some (.List es _)) _ => chkL false S ms es
    | _ => false
  | .ife c a b, s => match s with
    | .If ec sa sb _ => (grd true c ec && chk true S c ec) && (chkSs S rl lvl a sa && chkSs S rl lvl b sb)
    | _ => false
  | .fr t k ies body, s => match s with
    | .For tg it sts [] _ => (ies.length == itLen k && (chkL false S ies (itArgs S k it) && setB it)) && (tgB S.N t tg && ((tgNames tg).all (locB S.sc) && chkSs S rl lvl body sts))
    | _ => false
  | .cst c k v, s => match s with
    | .Assign [.Subscript ec ek _] ev _ => sliceB ek && (chk false S c ec && (chk false S k ek && chk false S v ev))
    | _ => false
def chkSs (S : Sc) (rl : Str → Nat) (lvl : Nat) : List VL.St → List Stmt → Bool
  | [], [] => true
  | m :: ms, s :: ss => chkS S rl lvl m s && chkSs S rl lvl ms ss
  | _, _ => false
end
/-- a def's own context -/
structure CokS (X : Cx) (T : Tab) (S : Sc) : Prop extends Cok X T S where
  kind : X.env.scope.kind = .function
  fn : ∀ y, X.fn y = true
  hp : PassesOwn (model X.prog X.w) X.A X.env X.xe
theorem loc_ok {sc : Scope} {y : Str} (h : locB sc y = true) : L2.Loc sc y := by
  simp only [locB, Bool.or_eq_true, beq_iff_eq] at h
  exact h
mutual
theorem sndS {T : Tab} {X : Cx} {S : Sc} {F : Fr} (C : CokS X T S) : ∀ (m : VL.St) (s : Stmt), chkS S T.rl F.lvl m s = true → PS X s (tSt (gam X) T F m)
  | .nev, s, h => s_nev
  | .pas, s, h => by
    unfold chkS at h
    split at h
    · exact s_pas
    · exact s_doc
    · cases h
  | .set i m, s, h => by
    unfold chkS at h
    split at h
    · rename_i y py x p
      obtain ⟨h1, h⟩ := and1 h
      obtain ⟨h2, h⟩ := and1 h
      obtain ⟨h3, h4⟩ := and1 h
      have hl : L2.Loc X.env.scope y := by rw [C.sc]; exact loc_ok h2
      have hi : X.N[i]? = some y := by rw [C.N]; exact beq_iff_eq.mp h1
      cases hs : swV S.sc x y py with
      | false => exact s_set (snd m false S x X C.toCok h4).out C.nd hi hl (.inl (C.fn _)) (by rw [swV_ok C.kind, C.sc, hs])
      | true =>
        cases m with
        | lc t k ies ifs elt =>
          unfold chk at h4
          split at h4
          · obtain ⟨g1, h4⟩ := and1 h4
            obtain ⟨g2, h4⟩ := and1 h4
            obtain ⟨g3, h4⟩ := and1 h4
            obtain ⟨g4, h4⟩ := and1 h4
            obtain ⟨g5, h4⟩ := and1 h4
            obtain ⟨g6, g7⟩ := and1 h4
            obtain ⟨g8, g9⟩ := and1 g1
            obtain ⟨g10, g11⟩ := and1 g9
            have hs' := hs
            simp only [swV, Bool.and_eq_true, beq_iff_eq] at hs'
            exact s_setLc C.calm C.nd hi (by rw [C.sc]; exact hs'.1.1) (by rw [swV_ok C.kind, C.sc, hs]) (it_ok C.toCok g8 (sndL ies false S _ X C.toCok g10)) (by rw [C.N, C.sc]; exact blk_ok g7) (pg_blk C.calm C.nd (by rw [C.N]; exact g5) g6)
              (fun s H c cl fp => (sndL ifs true _ _ _ (C.toCok.blk s H _ c cl fp) g2).ts (of_decide_eq_true g3)) (fun s H c cl fp => (snd elt false _ _ _ (C.toCok.blk s H _ c cl fp) g4).out) (fun x => set_ok g11 _ x)
          · cases h4
        | _ => rw [hs] at h3; cases h3
    · cases h
  | .par is ms, s, h => by
    unfold chkS at h
    split at h
    · obtain ⟨h1, h⟩ := and1 h
      obtain ⟨h2, h⟩ := and1 h
      obtain ⟨h3, h⟩ := and1 h
      obtain ⟨h4, h5⟩ := and1 h
      obtain ⟨p1, h4⟩ := and1 h4
      obtain ⟨p2, h4⟩ := and1 h4
      obtain ⟨p3, h4⟩ := and1 h4
      obtain ⟨p4, h4⟩ := and1 h4
      obtain ⟨p5, h4⟩ := and1 h4
      obtain ⟨p6, p7⟩ := and1 h4
      have ly := beq_iff_eq.mp p2
      have lz := beq_iff_eq.mp p3
      rw [← C.sc] at ly lz
      exact s_par C.calm C.nd (by rw [C.N]; exact beq_iff_eq.mp h1) (by rw [C.N]; exact beq_iff_eq.mp h2) (of_decide_eq_true h3) ly lz (sndL _ false S _ X C.toCok h5).pa (sw_par2 C.kind p1 ly lz p4 (by simpa using p5) ((Bool.not_eq_true' _).mp p6) ((Bool.not_eq_true' _).mp p7))
    · obtain ⟨h1, h⟩ := and1 h
      obtain ⟨h2, h⟩ := and1 h
      obtain ⟨h6, h⟩ := and1 h
      obtain ⟨h3, h⟩ := and1 h
      obtain ⟨h7, h⟩ := and1 h
      obtain ⟨h8, h⟩ := and1 h
      obtain ⟨h4, h5⟩ := and1 h
      obtain ⟨p1, h4⟩ := and1 h4
      obtain ⟨p2, h4⟩ := and1 h4
      obtain ⟨p3, h4⟩ := and1 h4
      obtain ⟨p8, h4⟩ := and1 h4
      obtain ⟨p4, h4⟩ := and1 h4
      obtain ⟨p9, h4⟩ := and1 h4
      obtain ⟨p5, h4⟩ := and1 h4
      obtain ⟨p6, p7⟩ := and1 h4
      have ly := beq_iff_eq.mp p2
      have lz := beq_iff_eq.mp p3
      have lu := beq_iff_eq.mp p8
      rw [← C.sc] at ly lz lu
      exact s_par3 C.calm C.nd (by rw [C.N]; exact beq_iff_eq.mp h1) (by rw [C.N]; exact beq_iff_eq.mp h2) (by rw [C.N]; exact beq_iff_eq.mp h6) (of_decide_eq_true h3) (of_decide_eq_true h7) (of_decide_eq_true h8) ly lz lu (sndL _ false S _ X C.toCok h5).pa
        (sw_par3 C.kind p1 ly lz lu p4 p9 (by simpa using p5) ((Bool.not_eq_true' _).mp p6) ((Bool.not_eq_true' _).mp p7))
    · cases h
  | .ret m, s, h => by
    unfold chkS at h
    split at h
    · obtain ⟨h1, h2⟩ := and1 h
      exact s_ret (snd m false S _ X C.toCok h2).out (of_decide_eq_true h1)
    · cases h
  | .retv i l, s, h => by
    unfold chkS at h
    split at h
    · obtain ⟨h1, h⟩ := and1 h
      obtain ⟨h2, h⟩ := and1 h
      obtain ⟨h3, h4⟩ := and1 h
      exact s_retv (by rw [C.N]; exact beq_iff_eq.mp h2) (by rw [C.sc]; exact vis_ok h3) h4 (of_decide_eq_true h1)
    · cases h
  | .retc ms, s, h => by
    unfold chkS at h
    split at h
    · exact s_retc (sndL ms false S _ X C.toCok h).pa
    · cases h
  | .ife c a b, s, h => by
    unfold chkS at h
    split at h
    · obtain ⟨h1, h⟩ := and1 h
      obtain ⟨h2, h3⟩ := and1 h
      obtain ⟨h4, h5⟩ := and1 h1
      exact s_if ((snd c true S _ X C.toCok h5).test h4) (sndSs C a _ h2) (sndSs C b _ h3)
    · cases h
  | .fr t k ies body, s, h => by
    unfold chkS at h
    split at h
    · obtain ⟨h1, h⟩ := and1 h
      obtain ⟨h2, h⟩ := and1 h
      obtain ⟨h3, h4⟩ := and1 h
      obtain ⟨h8, h9⟩ := and1 h1
      obtain ⟨h10, h11⟩ := and1 h9
      exact s_for C.hp C.calm (it_ok C.toCok h8 (sndL ies false S _ X C.toCok h10)) (pg_gT C.calm C.nd (by rw [C.N]; exact h2) fun x hx => ⟨by rw [C.sc]; exact loc_ok (List.all_eq_true.mp h3 x hx), .inl (C.fn x)⟩) (sndSs C body _ h4) (fun x => set_ok h11 _ x)
    · cases h
  | .cst c k v, s, h => by
    unfold chkS at h
    split at h
    · obtain ⟨h1, h⟩ := and1 h
      obtain ⟨h2, h⟩ := and1 h
      obtain ⟨h3, h4⟩ := and1 h
      exact s_cst h1 (snd c false S _ X C.toCok h2).out (snd k false S _ X C.toCok h3).out (snd v false S _ X C.toCok h4).out
    · cases h
theorem sndSs {T : Tab} {X : Cx} {S : Sc} {F : Fr} (C : CokS X T S) : ∀ (ms : List VL.St) (ss : List Stmt), chkSs S T.rl F.lvl ms ss = true → PSs X ss (tSts (gam X) T F ms)
  | [], [], h => ss_nil
  | m :: ms, s :: ss, h => by
    unfold chkSs at h
    obtain ⟨h1, h2⟩ := and1 h
    exact ss_cons (sndS C m s h1) (sndSs C ms ss h2)
  | [], _ :: _, h => by unfold chkSs at h; cases h
  | _ :: _, [], h => by unfold chkSs at h; cases h
end
end VL
/-! V20: a def's promise from its checked body. -/
namespace VL
open PySem L2 PyProof.Rows
def env0 (N n : Nat) (ds : List D) : Env2 := ds.map (fun d => some (d, 0)) ++ List.replicate (N - n) none
section
variable {P : Program} {w : World} {K : PySem.W.Frag} {mg : Str → Option Value} {base : Heap} {f : Addr} {fd : FuncData} {x qual : Str} {params : Arguments} {body : List Stmt} {scope : Scope} {N ps : List Str} {T : Tab} {S : Sc} {prog : List VL.St} {k : Nat}
theorem RepL.slots {Γ : Gam} {κ : List Addr} {H : Hp} {vs : List V} {ds : List VL.D} {Sa : List Addr} (r : RepL Γ κ H 0 vs ds [] Sa) : ∃ SI : Nat → List Addr, (∀ i d, ds[i]? = some d → ∃ v, vs[i]? = some v ∧ Rep Γ κ H 0 v d [] (SI i)) ∧ (∀ i, ds[i]? = none → SI i = []) ∧ ∀ i a, a ∈ SI i → a ∈ Sa := by
  have key : ∀ i : Nat, ∃ L : List Addr, (∀ d, ds[i]? = some d → ∃ v, vs[i]? = some v ∧ Rep Γ κ H 0 v d [] L) ∧ (ds[i]? = none → L = []) ∧ ∀ a ∈ L, a ∈ Sa := fun i => by
    cases e : ds[i]? with
    | none => exact ⟨[], (fun d h => by cases h), fun _ => rfl, fun _ h => nomatch h⟩
    | some d =>
      obtain ⟨v, S', h1, h2, h3⟩ := r.pick i d e
      exact ⟨S', fun d' h => by cases h; exact ⟨v, h1, h2⟩, (fun h => by cases h), h3⟩
  exact ⟨fun i => Classical.choose (key i), fun i => (Classical.choose_spec (key i)).1, fun i => (Classical.choose_spec (key i)).2.1, fun i => (Classical.choose_spec (key i)).2.2⟩
theorem fn_v (Fd : FunD K x qual params body scope [] [] f fd) (Sc0 : FnScope N ps scope) (hN : S.N = N) (hsc : S.sc = scope)
    (hf : ∀ y n, S.fns.contains (y, n) = true → ∃ (fa : Addr) (fd : FuncData) (ps : List Str), FnOkG P w K mg base CX0 k fa fd ps (spV ⟨P, w, K, mg⟩ T y n) ∧ mg y = some (.ref fa) ∧ PySem.W.keepIn K (.ref fa) = true ∧ Binds K fd ps [])
    (hb : ∀ y, S.bls.contains y = true → mg y = none) (hat : ∀ c y, S.atts.contains (c, y) = true → ∃ C, mg c = some (.ref C) ∧ Cls K C ∧ NoAttr K C y)
    (hchk : chkSs S T.rl (T.rl x) prog body = true)
    (hsm : (K.lookup sysModules).isSome = true)
    (hers : ∀ c, S.ers.contains c = true → k ≠ 0 ∧ ∃ (C f : Addr) (fd : FuncData), VE.ErrM P K mg C f fd ∧ mg c = some (.ref C))
    (hexb : ∀ c, S.exbs.contains c = true → ∃ C, PySem.W.excIn K C He.veBase "ValueError.__new__" = true ∧ PySem.W.keepIn K (.ref C) = true ∧ mg c = some (.ref C))
    (hisx : ∀ c, S.isxs.contains c = true → IsxK K mg S.ens c) (hatv : AtvK K mg S.ens) (T' : Tab) (hT : T'.rl x = T.rl x)
    (hΦ : ∀ ds g d g', ds.length = ps.length → T'.Φ x ds g = some (d, g') → xss T.Φ T.rl prog (env0 N.length ps.length ds) g = some (.rt d g') ∨ (d = .non ∧ ∃ e, xss T.Φ T.rl prog (env0 N.length ps.length ds) g = some (.nx e g'))) :
    FnOkG P w K mg base CX0 (k + 1) f fd ps (spV ⟨P, w, K, mg⟩ T' x ps.length) := by
  refine Fd.okG Sc0 (fun vs H Q E h => h.1) (fun cdv A outer s H vs Q E hr hgu h => ?_)
  obtain ⟨hlen, κ, g, ds, Sa, c, r, d, g', e1, kk⟩ := h
  have hdl : ds.length = ps.length := by rw [← r.len]; exact hlen
  have hpN : ps.length ≤ N.length := by
    have := congrArg List.length Sc0.pre
    rw [List.length_take] at this
    omega
  refine ⟨tSts ⟨P, w, K, mg⟩ T ⟨κ, H, Sa, T.rl x⟩ prog, PSs.nox ?_, ?_⟩
  · have C : CokS (cxOf CX0 P w K mg base N qual scope f cdv A outer s H E).nox T S := {
      N := hN.symm
      sc := hsc.symm
      nd := Sc0.nd
      calm := rfl
      hu := by
        have := hr.un
        show (A.deeper _).units + 70 < cLine
        omega
      fns := fun y n h => by
        obtain ⟨fa, fd', ps', F, hm, hk, hbd⟩ := hf y n h
        exact ⟨k, fa, fd', ps', hr, hgu, F, hm, hk, hbd⟩
      bls := hb
      atts := hat
      gu := hgu
      sm := hsm
      ers := fun c h => by
        obtain ⟨hk, C, f, fd, t, hm⟩ := hers c h
        refine ⟨k - 1, C, f, fd, ?_, t, hm⟩
        rw [Nat.sub_add_cancel (Nat.one_le_iff_ne_zero.mpr hk)]
        exact hr
      exbs := hexb
      isxs := fun c h => hisx c h
      atv := hatv
      kind := Sc0.kind
      fn := fun _ => rfl
      hp := PassesOwn.never }
    exact sndSs (F := ⟨κ, H, Sa, T.rl x⟩) C prog body hchk
  · obtain ⟨SI, h1, h2, h3⟩ := r.slots
    have ent : Ent ⟨P, w, K, mg⟩ [] κ H Sa κ H g (fun _ => []) SI := ⟨.refl, .refl, c, (fun _ _ h => nomatch h), fun i a h => .inr (h3 i a h), (fun _ h => nomatch h), (fun _ h => nomatch h), (fun _ h => nomatch h)⟩
    have hel : (env0 N.length ps.length ds).length = N.length := by
      unfold env0
      rw [List.length_append, List.length_map, List.length_replicate]
      omega
    have at0 : ∀ i d n, (env0 N.length ps.length ds)[i]? = some (some (d, n)) → ds[i]? = some d ∧ n = 0 := fun i d n h => by
      unfold env0 at h
      by_cases hi : i < ds.length
      · rw [List.getElem?_append_left (by rw [List.length_map]; exact hi), List.getElem?_map, List.getElem?_eq_getElem hi] at h
        cases h
        exact ⟨List.getElem?_eq_getElem hi, rfl⟩
      · rw [List.getElem?_append_right (by rw [List.length_map]; omega)] at h
        rw [List.getElem?_replicate] at h
        split at h <;> cases h
    have envo : EnvO ⟨P, w, K, mg⟩ κ H (L2.start N vs) (env0 N.length ps.length ds) (fun _ => []) SI := {
      len := by
        rw [hel]
        unfold L2.start
        rw [List.length_append, List.length_map, List.length_replicate, hlen]
        omega
      at_ := fun i d n h => by
        obtain ⟨a, rfl⟩ := at0 i d n h
        obtain ⟨v, b, q⟩ := h1 i d a
        refine ⟨v, ?_, q⟩
        unfold L2.start
        have hi : i < vs.length := (List.getElem?_eq_some_iff.mp b).1
        rw [List.getElem?_append_left (by rw [List.length_map]; exact hi), List.getElem?_map, b]
        rfl
      off := fun i h => ⟨rfl, by
        cases z : ds[i]? with
        | none => exact h2 i z
        | some d =>
          refine absurd ?_ (h d 0)
          have hi : i < ds.length := (List.getElem?_eq_some_iff.mp z).1
          unfold env0
          rw [List.getElem?_append_left (by rw [List.length_map]; exact hi), List.getElem?_map, z]
          rfl⟩
      nd := fun _ => List.nodup_nil
      dj := fun _ _ _ _ h => nomatch h
      ap := fun _ _ _ h => nomatch h }
    rcases hΦ ds g d g' hdl e1 with q | ⟨rfl, e, q⟩
    · exact ⟨[], κ, g, _, _, SI, _, ent, envo, q, fun v H' κ' O S' st rp => kk v H' κ' O S' st (by rw [hT]; exact rp)⟩
    · exact ⟨[], κ, g, _, _, SI, _, ent, envo, q, fun σ H' κ' OI' SI' t' r' => kk .non H' κ' [] [] ⟨t'.ext, t'.kx, t'.cr, List.nodup_nil, (fun _ h => nomatch h), (fun _ h => nomatch h), (fun _ h => nomatch h)⟩ .non⟩
end
end VL
namespace VL
open PySem L2 PyProof.Rows
def topK (i : Nat) : Stmt := PySem.Challenge.pw_postways_k01_errors_made.main.body.getD i (.Pass ⟨0, 0, 0, 0⟩)
def rlK : Str → Nat := fun _ => 0
def ersK : List Str := ["InvalidRows", "InvalidRun", "InvalidLetter", "InvalidLetters", "InvalidParty", "InvalidNames", "InvalidEvent", "InvalidEvents", "InvalidFront", "InvalidLine", "InvalidNumber", "InvalidKind", "InvalidPlace", "InvalidMake", "InvalidLane", "InvalidSlots", "InvalidLog", "InvalidRuns", "InvalidPieces", "InvalidWays", "InvalidPlan", "InvalidWay", "InvalidDesk", "InvalidRecord", "InvalidScript", "InvalidText", "Lies", "Refused"]
def ensK : List Str := ["InvalidRows", "InvalidRun", "InvalidLetter", "InvalidLetters", "InvalidParty", "InvalidNames", "InvalidEvent", "InvalidEvents", "InvalidFront", "InvalidLine", "InvalidNumber", "InvalidKind", "InvalidPlace", "InvalidMake", "InvalidLane", "InvalidSlots", "InvalidLog", "InvalidRuns", "InvalidPieces", "InvalidWays", "InvalidPlan", "InvalidWay", "InvalidDesk", "InvalidRecord", "InvalidScript", "InvalidText", "Lies", "Refused", "PostError", "NothingToUndo", "NothingToRedo"]
def b_law_mixed : List VL.St := [.set 3 (.bin .add (.bin .mul (.var 0) (.int 69069)) (.bin .mul (.bin .mul (.int 104729) (.var 1)) (.var 1))), .set 3 (.bin .mod (.bui .int [(.bin .add (.bin .add (.var 3) (.bin .mul (.int 7919) (.var 2))) (.var 1))]) (.int 2147483647)), .set 3 (.bin .mod (.bui .int [(.bin .add (.bin .mul (.var 3) (.var 3)) (.int 40503))]) (.int 2147483629)), .ret (.bin .mod (.bui .int [(.bin .mul (.var 3) (.int 48271))]) (.int 2147483587))]
def n_law_mixed : List Str := ["_law_seed", "_law_spin", "_law_at", "_law_mixed_here"]
def s_law_mixed : Sc := { N := n_law_mixed, sc := defScope (topK 33), fns := [], bls := ["int"], atts := [], ers := [], exbs := [], isxs := [], ens := ensK }
theorem k_law_mixed : chkSs s_law_mixed rlK 0 b_law_mixed (defBody (topK 33)) = true := by kernel_rfl
def b_law_draw : List VL.St := [.ife (.cmp .gt (.sub (.var 0) (.int 0)) (.int 0)) [.set 2 (.bin .mod (.bui .int [(.sub (.var 0) (.int 0))]) (.var 1)), .cst (.var 0) (.int 0) (.bin .fdiv (.sub (.var 0) (.int 0)) (.var 1)), .ret (.var 2)] [], .set 3 (.int 0), .fr (.nm 4) .rng1 [(.bin .add (.int 1) (.bin .fdiv (.bme .bitlen (.var 1) []) (.int 28)))] [.cst (.var 0) (.int 2) (.bin .add (.sub (.var 0) (.int 2)) (.int 1)), .set 3 (.bin .add (.bin .mul (.var 3) (.int 2147483587)) (.cal "_law_mixed" [(.sub (.var 0) (.int 1)), (.sub (.var 0) (.int 2)), (.sub (.var 0) (.int 3))]))], .ret (.bin .mod (.bui .int [(.var 3)]) (.var 1))]
def n_law_draw : List Str := ["_law_dice", "_law_many", "_law_drawn", "_law_found", "_law_piece"]
def s_law_draw : Sc := { N := n_law_draw, sc := defScope (topK 34), fns := [("_law_mixed", 3)], bls := ["int", "range"], atts := [], ers := [], exbs := [], isxs := [], ens := ensK }
theorem k_law_draw : chkSs s_law_draw rlK 0 b_law_draw (defBody (topK 34)) = true := by kernel_rfl
def b_law_one_of : List VL.St := [.ret (.sub (.var 1) (.cal "_law_draw" [(.var 0), (.bui .len [(.var 1)])]))]
def n_law_one_of : List Str := ["_law_dice", "_law_some"]
def s_law_one_of : Sc := { N := n_law_one_of, sc := defScope (topK 35), fns := [("_law_draw", 2)], bls := ["len"], atts := [], ers := [], exbs := [], isxs := [], ens := ensK }
theorem k_law_one_of : chkSs s_law_one_of rlK 0 b_law_one_of (defBody (topK 35)) = true := by kernel_rfl
def b_law_word : List VL.St := [.ife (.cmp .eq (.cal "_law_draw" [(.var 0), (.int 8)]) (.int 0)) [.ret (.cal "_law_one_of" [(.var 0), (.lst [(.str "send"), (.str "take"), (.str "lie"), (.str "to"), (.str "from")])])] [], .set 1 (.bin .add (.int 1) (.cal "_law_draw" [(.var 0), (.ite (.cmp .eq (.cal "_law_draw" [(.var 0), (.int 3)]) (.int 0)) (.int 8) (.int 3))])), .ret (.bme .join (.str "") [(.lc (.nm 2) .rng1 [(.var 1)] [] (.sub (.str "abcdefghijklmnopqrstuvwxyz") (.cal "_law_draw" [(.var 0), (.int 26)])))])]
def n_law_word : List Str := ["_law_dice", "_law_size", "_law_spin"]
def s_law_word : Sc := { N := n_law_word, sc := defScope (topK 36), fns := [("_law_draw", 2), ("_law_one_of", 2)], bls := ["range"], atts := [], ers := [], exbs := [], isxs := [], ens := ensK }
theorem k_law_word : chkSs s_law_word rlK 0 b_law_word (defBody (topK 36)) = true := by kernel_rfl
def b_law_purse : List VL.St := [.set 2 (.bui .sum [(.sli (.var 0) [(.var 1)] [(.bin .add (.var 1) (.int 1))])]), .retc [(.bin .mod (.bui .int [(.bui .max2 [(.bin .sub (.var 2) (.bin .pow (.int 10) (.int 18))), (.int 0)])]) (.bin .pow (.bin .pow (.int 10) (.int 60)) (.int 8))), (.bin .mod (.bui .int [(.var 2)]) (.int 2147483629)), (.int 0), (.var 1)]]
def n_law_purse : List Str := ["_law_script", "_law_at", "_law_seed"]
def s_law_purse : Sc := { N := n_law_purse, sc := defScope (topK 37), fns := [], bls := ["int", "max", "sum"], atts := [], ers := [], exbs := [], isxs := [], ens := ensK }
theorem k_law_purse : chkSs s_law_purse rlK 0 b_law_purse (defBody (topK 37)) = true := by kernel_rfl
def b_law_purses : List VL.St := [.ret (.lc (.nm 2) .rng1 [(.bui .max2 [(.int 1), (.bui .min2 [(.var 1), (.bui .len [(.var 0)])])])] [] (.cal "_law_purse" [(.var 0), (.var 2)]))]
def n_law_purses : List Str := ["_law_script", "_law_few", "_law_at"]
def s_law_purses : Sc := { N := n_law_purses, sc := defScope (topK 38), fns := [("_law_purse", 2)], bls := ["len", "max", "min", "range"], atts := [], ers := [], exbs := [], isxs := [], ens := ensK }
theorem k_law_purses : chkSs s_law_purses rlK 0 b_law_purses (defBody (topK 38)) = true := by kernel_rfl
def b_law_first : List VL.St := [.set 1 (.lst [(.err "InvalidRows" [(.var 0)]), (.err "InvalidRun" [(.var 0)]), (.err "InvalidLetter" [(.var 0)]), (.err "InvalidLetters" [(.var 0)])]), .set 1 (.bin .add (.var 1) (.lst [(.err "InvalidParty" [(.var 0)]), (.err "InvalidNames" [(.var 0)]), (.err "InvalidEvent" [(.var 0)]), (.err "InvalidEvents" [(.var 0)])])), .set 1 (.bin .add (.var 1) (.lst [(.err "InvalidFront" [(.var 0)]), (.err "InvalidLine" [(.var 0)]), (.err "InvalidNumber" [(.var 0)]), (.err "InvalidKind" [(.var 0)])])), .set 1 (.bin .add (.var 1) (.lst [(.err "InvalidPlace" [(.var 0)]), (.err "InvalidMake" [(.var 0)]), (.err "InvalidLane" [(.var 0)]), (.err "InvalidSlots" [(.var 0)])])), .set 1 (.bin .add (.var 1) (.lst [(.err "InvalidLog" [(.var 0)]), (.err "InvalidRuns" [(.var 0)]), (.err "InvalidPieces" [(.var 0)]), (.err "InvalidWays" [(.var 0)])])), .set 1 (.bin .add (.var 1) (.lst [(.err "InvalidPlan" [(.var 0)]), (.err "InvalidWay" [(.var 0)]), (.err "InvalidDesk" [(.var 0)]), (.err "InvalidRecord" [(.var 0)])])), .set 1 (.bin .add (.var 1) (.lst [(.err "InvalidScript" [(.var 0)]), (.err "InvalidText" [(.var 0)]), (.err "Lies" [(.var 0)]), (.err "Refused" [(.var 0)])])), .ret (.var 1)]
def n_law_first : List Str := ["_law_thing", "_law_found"]
def s_law_first : Sc := { N := n_law_first, sc := defScope (topK 39), fns := [], bls := [], atts := [], ers := ["InvalidDesk", "InvalidEvent", "InvalidEvents", "InvalidFront", "InvalidKind", "InvalidLane", "InvalidLetter", "InvalidLetters", "InvalidLine", "InvalidLog", "InvalidMake", "InvalidNames", "InvalidNumber", "InvalidParty", "InvalidPieces", "InvalidPlace", "InvalidPlan", "InvalidRecord", "InvalidRows", "InvalidRun", "InvalidRuns", "InvalidScript", "InvalidSlots", "InvalidText", "InvalidWay", "InvalidWays", "Lies", "Refused"], exbs := [], isxs := [], ens := ensK }
theorem k_law_first : chkSs s_law_first rlK 0 b_law_first (defBody (topK 39)) = true := by kernel_rfl
def b_law_called : List VL.St := [.set 1 (.lst [(.err "InvalidRows" [(.var 0)]), (.err "InvalidRun" [(.var 0)]), (.err "InvalidLetter" [(.var 0)])]), .set 1 (.bin .add (.var 1) (.lst [(.err "InvalidLetters" [(.var 0)]), (.err "InvalidParty" [(.var 0)]), (.err "InvalidNames" [(.var 0)])])), .set 1 (.bin .add (.var 1) (.lst [(.err "InvalidEvent" [(.var 0)]), (.err "InvalidEvents" [(.var 0)]), (.err "InvalidFront" [(.var 0)])])), .set 1 (.bin .add (.var 1) (.lst [(.err "InvalidLine" [(.var 0)]), (.err "InvalidNumber" [(.var 0)]), (.err "InvalidKind" [(.var 0)])])), .set 1 (.bin .add (.var 1) (.lst [(.err "InvalidPlace" [(.var 0)]), (.err "InvalidMake" [(.var 0)]), (.err "InvalidLane" [(.var 0)])])), .set 1 (.bin .add (.var 1) (.lst [(.err "InvalidSlots" [(.var 0)]), (.err "InvalidLog" [(.var 0)]), (.err "InvalidRuns" [(.var 0)])])), .set 1 (.bin .add (.var 1) (.lst [(.err "InvalidPieces" [(.var 0)]), (.err "InvalidWays" [(.var 0)]), (.err "InvalidPlan" [(.var 0)])])), .set 1 (.bin .add (.var 1) (.lst [(.err "InvalidWay" [(.var 0)]), (.err "InvalidDesk" [(.var 0)]), (.err "InvalidRecord" [(.var 0)])])), .set 1 (.bin .add (.var 1) (.lst [(.err "InvalidScript" [(.var 0)]), (.err "InvalidText" [(.var 0)]), (.err "Lies" [(.var 0)])])), .set 1 (.bin .add (.var 1) (.lst [(.err "Refused" [(.var 0)])])), .ret (.var 1)]
def n_law_called : List Str := ["_law_thing", "_law_found"]
def s_law_called : Sc := { N := n_law_called, sc := defScope (topK 40), fns := [], bls := [], atts := [], ers := ["InvalidDesk", "InvalidEvent", "InvalidEvents", "InvalidFront", "InvalidKind", "InvalidLane", "InvalidLetter", "InvalidLetters", "InvalidLine", "InvalidLog", "InvalidMake", "InvalidNames", "InvalidNumber", "InvalidParty", "InvalidPieces", "InvalidPlace", "InvalidPlan", "InvalidRecord", "InvalidRows", "InvalidRun", "InvalidRuns", "InvalidScript", "InvalidSlots", "InvalidText", "InvalidWay", "InvalidWays", "Lies", "Refused"], exbs := [], isxs := [], ens := ensK }
theorem k_law_called : chkSs s_law_called rlK 0 b_law_called (defBody (topK 40)) = true := by kernel_rfl
def b_law_bare : List VL.St := [.set 0 (.lst [(.err "InvalidRows" []), (.err "InvalidRun" []), (.err "InvalidLetter" []), (.err "InvalidLetters" []), (.err "InvalidParty" []), (.err "InvalidNames" [])]), .set 0 (.bin .add (.var 0) (.lst [(.err "InvalidEvent" []), (.err "InvalidEvents" []), (.err "InvalidFront" []), (.err "InvalidLine" []), (.err "InvalidNumber" [])])), .set 0 (.bin .add (.var 0) (.lst [(.err "InvalidKind" []), (.err "InvalidPlace" []), (.err "InvalidMake" []), (.err "InvalidLane" []), (.err "InvalidSlots" []), (.err "InvalidLog" [])])), .set 0 (.bin .add (.var 0) (.lst [(.err "InvalidRuns" []), (.err "InvalidPieces" []), (.err "InvalidWays" []), (.err "InvalidPlan" []), (.err "InvalidWay" []), (.err "InvalidDesk" [])])), .set 0 (.bin .add (.var 0) (.lst [(.err "InvalidRecord" []), (.err "InvalidScript" []), (.err "InvalidText" []), (.err "Lies" []), (.err "Refused" [])])), .ret (.var 0)]
def n_law_bare : List Str := ["_law_found"]
def s_law_bare : Sc := { N := n_law_bare, sc := defScope (topK 41), fns := [], bls := [], atts := [], ers := ["InvalidDesk", "InvalidEvent", "InvalidEvents", "InvalidFront", "InvalidKind", "InvalidLane", "InvalidLetter", "InvalidLetters", "InvalidLine", "InvalidLog", "InvalidMake", "InvalidNames", "InvalidNumber", "InvalidParty", "InvalidPieces", "InvalidPlace", "InvalidPlan", "InvalidRecord", "InvalidRows", "InvalidRun", "InvalidRuns", "InvalidScript", "InvalidSlots", "InvalidText", "InvalidWay", "InvalidWays", "Lies", "Refused"], exbs := [], isxs := [], ens := ensK }
theorem k_law_bare : chkSs s_law_bare rlK 0 b_law_bare (defBody (topK 41)) = true := by kernel_rfl
def b_law_code : List VL.St := [.set 1 (.lst [(.isx ensK (.var 0) "InvalidRows"), (.isx ensK (.var 0) "InvalidRun"), (.isx ensK (.var 0) "InvalidLetter")]), .set 1 (.bin .add (.var 1) (.lst [(.isx ensK (.var 0) "InvalidLetters"), (.isx ensK (.var 0) "InvalidParty")])), .set 1 (.bin .add (.var 1) (.lst [(.isx ensK (.var 0) "InvalidNames"), (.isx ensK (.var 0) "InvalidEvent")])), .set 1 (.bin .add (.var 1) (.lst [(.isx ensK (.var 0) "InvalidEvents"), (.isx ensK (.var 0) "InvalidFront")])), .set 1 (.bin .add (.var 1) (.lst [(.isx ensK (.var 0) "InvalidLine"), (.isx ensK (.var 0) "InvalidNumber")])), .set 1 (.bin .add (.var 1) (.lst [(.isx ensK (.var 0) "InvalidKind"), (.isx ensK (.var 0) "InvalidPlace")])), .set 1 (.bin .add (.var 1) (.lst [(.isx ensK (.var 0) "InvalidMake"), (.isx ensK (.var 0) "InvalidLane")])), .set 1 (.bin .add (.var 1) (.lst [(.isx ensK (.var 0) "InvalidSlots"), (.isx ensK (.var 0) "InvalidLog")])), .set 1 (.bin .add (.var 1) (.lst [(.isx ensK (.var 0) "InvalidRuns"), (.isx ensK (.var 0) "InvalidPieces")])), .set 1 (.bin .add (.var 1) (.lst [(.isx ensK (.var 0) "InvalidWays"), (.isx ensK (.var 0) "InvalidPlan")])), .set 1 (.bin .add (.var 1) (.lst [(.isx ensK (.var 0) "InvalidWay"), (.isx ensK (.var 0) "InvalidDesk")])), .set 1 (.bin .add (.var 1) (.lst [(.isx ensK (.var 0) "InvalidRecord"), (.isx ensK (.var 0) "InvalidScript")])), .set 1 (.bin .add (.var 1) (.lst [(.isx ensK (.var 0) "InvalidText"), (.isx ensK (.var 0) "Lies"), (.isx ensK (.var 0) "Refused")])), .set 1 (.bin .add (.var 1) (.lst [(.isx ensK (.var 0) "NothingToUndo"), (.isx ensK (.var 0) "NothingToRedo")])), .ret (.lc (.nm 2) .rng1 [(.bui .len [(.var 1)])] [(.sub (.var 1) (.var 2))] (.var 2))]
def n_law_code : List Str := ["_law_error", "_law_found", "_law_at"]
def s_law_code : Sc := { N := n_law_code, sc := defScope (topK 42), fns := [], bls := ["isinstance", "len", "range"], atts := [], ers := [], exbs := [], isxs := ["InvalidDesk", "InvalidEvent", "InvalidEvents", "InvalidFront", "InvalidKind", "InvalidLane", "InvalidLetter", "InvalidLetters", "InvalidLine", "InvalidLog", "InvalidMake", "InvalidNames", "InvalidNumber", "InvalidParty", "InvalidPieces", "InvalidPlace", "InvalidPlan", "InvalidRecord", "InvalidRows", "InvalidRun", "InvalidRuns", "InvalidScript", "InvalidSlots", "InvalidText", "InvalidWay", "InvalidWays", "Lies", "NothingToRedo", "NothingToUndo", "Refused"], ens := ensK }
theorem k_law_code : chkSs s_law_code rlK 0 b_law_code (defBody (topK 42)) = true := by kernel_rfl
def b_law_is_error : List VL.St := [.ret (.orv true [(.isx ensK (.var 0) "PostError"), (.isx ensK (.var 0) "ValueError")])]
def n_law_is_error : List Str := ["_law_error"]
def s_law_is_error : Sc := { N := n_law_is_error, sc := defScope (topK 43), fns := [], bls := ["isinstance"], atts := [], ers := [], exbs := [], isxs := ["PostError", "ValueError"], ens := ensK }
theorem k_law_is_error : chkSs s_law_is_error rlK 0 b_law_is_error (defBody (topK 43)) = true := by kernel_rfl
def b_law_right : List VL.St := [.ife (.cmp .ne (.lc (.nm 2) .val [(.var 0)] [] (.cal "_law_code" [(.var 2)])) (.lc (.nm 3) .rng1 [(.int 28)] [] (.lst [(.var 3)]))) [.ret (.bl false)] [], .ret (.cmp .eq (.lc (.nm 2) .val [(.var 0)] [(.bop false [(.not (.cal "_law_is_error" [(.var 2)])), (.cmp .ne (.bui .repr [(.atv ensK (.var 2))]) (.var 1))])] (.var 2)) (.lst []))]
def n_law_right : List Str := ["_law_some", "_law_noted", "_law_error", "_law_at"]
def s_law_right : Sc := { N := n_law_right, sc := defScope (topK 44), fns := [("_law_code", 1), ("_law_is_error", 1)], bls := ["range", "repr"], atts := [], ers := [], exbs := [], isxs := [], ens := ensK }
theorem k_law_right : chkSs s_law_right rlK 0 b_law_right (defBody (topK 44)) = true := by kernel_rfl
end VL
/-! K01p: evaluation by rules. -/
namespace VL
open PySem
section
variable {Φ : Phi} {rl : Str → Nat} {env : VL.Env} {e e' : Env2} {g g1 g2 g3 : G} {d x y z : D} {a b c m k v : Ex} {es : List Ex} {ds : List D} {i : Nat} {o : BO} {p q : CO} {f : Str} {r : Option (D × G)} {ro : Option Out}
theorem e_var (h : env[i]? = some (some d)) : ev Φ (.var i) env g = some (d, g) := by rw [ev, h]; rfl
theorem e_int {j : Int} : ev Φ (.int j) env g = some (.int j, g) := by rw [ev]
theorem e_str {s : Str} : ev Φ (.str s) env g = some (.str s, g) := by rw [ev]
theorem e_non : ev Φ .non env g = some (.non, g) := by rw [ev]
theorem e_bl {t : Bool} : ev Φ (.bl t) env g = some (.bl t, g) := by rw [ev]
theorem e_bin (h1 : ev Φ a env g = some (x, g1)) (h2 : ev Φ b env g1 = some (y, g2)) (h3 : binop o x y = some d) : ev Φ (.bin o a b) env g = some (d, g2) := by rw [ev, h1, Option.bind_some, h2, Option.bind_some, h3]; rfl
theorem e_cmp {t : Bool} (h1 : ev Φ a env g = some (x, g1)) (h2 : ev Φ b env g1 = some (y, g2)) (h3 : cmpD p x y = some t) : ev Φ (.cmp p a b) env g = some (.bl t, g2) := by rw [ev, h1, Option.bind_some, h2, Option.bind_some, h3]; rfl
theorem e_sub (h1 : ev Φ a env g = some (x, g1)) (h2 : ev Φ b env g1 = some (y, g2)) (h3 : subscr g2 x y = some d) : ev Φ (.sub a b) env g = some (d, g2) := by rw [ev, h1, Option.bind_some, h2, Option.bind_some, h3]; rfl
theorem e_neg {j : Int} (h1 : ev Φ a env g = some (.int j, g1)) : ev Φ (.neg a) env g = some (.int (-j), g1) := by rw [ev, h1]; rfl
theorem e_not {t : Bool} (h1 : ev Φ a env g = some (x, g1)) (h2 : truth x = some t) : ev Φ (.not a) env g = some (.bl (!t), g1) := by rw [ev, h1, Option.bind_some, h2]; rfl
theorem e_bui {u : Bui} (h1 : evs Φ es env g = some (ds, g1)) (h2 : bui g1 u ds = some d) : ev Φ (.bui u es) env g = some (d, g1) := by rw [ev, h1, Option.bind_some, h2]; rfl
theorem e_bme {u : Bme} (h1 : ev Φ a env g = some (x, g1)) (h2 : evs Φ es env g1 = some (ds, g2)) (h3 : bme g2 u x ds = some d) : ev Φ (.bme u a es) env g = some (d, g2) := by rw [ev, h1, Option.bind_some, h2, Option.bind_some, h3]; rfl
theorem e_cal (h1 : evs Φ es env g = some (ds, g1)) (h2 : Φ f ds g1 = r) : ev Φ (.cal f es) env g = r := by rw [ev, h1, Option.bind_some, h2]
theorem e_ite1 (h1 : ev Φ c env g = some (x, g1)) (h2 : truth x = some true) (h3 : ev Φ a env g1 = r) : ev Φ (.ite c a b) env g = r := by rw [ev, h1, Option.bind_some, h2, Option.bind_some, if_pos rfl, h3]
theorem e_ite0 (h1 : ev Φ c env g = some (x, g1)) (h2 : truth x = some false) (h3 : ev Φ b env g1 = r) : ev Φ (.ite c a b) env g = r := by rw [ev, h1, Option.bind_some, h2, Option.bind_some, if_neg (by simp), h3]
theorem e_lst (h1 : evs Φ es env g = some (ds, g1)) (h2 : sz ds.length = true) : ev Φ (.lst es) env g = some (.lst ds, g1) := by rw [ev, h1, Option.bind_some, h2]; rfl
theorem e_tup (h1 : evs Φ es env g = some (ds, g1)) (h2 : sz ds.length = true) : ev Φ (.tup es) env g = some (.tup ds, g1) := by rw [ev, h1, Option.bind_some, h2]; rfl
theorem es_nil : evs Φ [] env g = some ([], g) := by rw [evs]
theorem es_cons (h1 : ev Φ a env g = some (x, g1)) (h2 : evs Φ es env g1 = some (ds, g2)) : evs Φ (a :: es) env g = some (x :: ds, g2) := by rw [evs, h1, Option.bind_some, h2]; rfl
theorem x_nil : xss Φ rl [] e g = some (.nx e g) := by rw [xss]
theorem x_nx {s : VL.St} {ss : List VL.St} (h1 : xs1 Φ rl s e g = some (.nx e' g1)) (h2 : xss Φ rl ss e' g1 = ro) : xss Φ rl (s :: ss) e g = ro := by rw [xss, h1, Option.bind_some]; exact h2
theorem x_rt {s : VL.St} {ss : List VL.St} (h1 : xs1 Φ rl s e g = some (.rt d g1)) : xss Φ rl (s :: ss) e g = some (.rt d g1) := by rw [xss, h1, Option.bind_some]
theorem x_ret (h1 : ev Φ m (vw e) g = some (d, g1)) : xs1 Φ rl (.ret m) e g = some (.rt d g1) := by rw [xs1, h1]; rfl
theorem x_if1 {u w : List VL.St} (h1 : ev Φ c (vw e) g = some (x, g1)) (h2 : truth x = some true) (h3 : xss Φ rl u e g1 = ro) : xs1 Φ rl (.ife c u w) e g = ro := by rw [xs1, h1, Option.bind_some, h2, Option.bind_some, if_pos rfl, h3]
theorem x_if0 {u w : List VL.St} (h1 : ev Φ c (vw e) g = some (x, g1)) (h2 : truth x = some false) (h3 : xss Φ rl w e g1 = ro) : xs1 Φ rl (.ife c u w) e g = ro := by rw [xs1, h1, Option.bind_some, h2, Option.bind_some, if_neg (by simp), h3]
theorem x_set (h1 : ev Φ m (vw e) g = some (d, g1)) (h2 : i < e.length) (h3 : setV e i m (own rl m) d = e') : xs1 Φ rl (.set i m) e g = some (.nx e' g1) := by rw [xs1, h1, Option.bind_some, if_pos h2, h3]
theorem setW {n : Nat} (h : whole n d = true) (h2 : e.set i (some (d, n)) = e') : setV e i m n d = e' := by unfold setV; rw [h, if_pos rfl, h2]
theorem x_cst {g4 : G} (h1 : ev Φ v (vw e) g = some (x, g1)) (h2 : ev Φ c (vw e) g1 = some (y, g2)) (h3 : ev Φ k (vw e) g2 = some (z, g3)) (h4 : celD y z x g3 = some g4) : xs1 Φ rl (.cst c k v) e g = some (.nx e g4) := by
  rw [xs1, h1, Option.bind_some, h2, Option.bind_some, h3, Option.bind_some, h4]; rfl
theorem x_for {t : Tg} {kk : ItK} {ies : List Ex} {body : List VL.St} {xs : List D} (h1 : evs Φ ies (vw e) g = some (ds, g1)) (h2 : iter g1 kk ds = some xs) (h3 : forLoop (fun x e g => (bind2 t x e).bind fun e => xss Φ rl body e g) xs (frz e (nmss ies)) g1 = ro) :
    xs1 Φ rl (.fr t kk ies body) e g = ro := by rw [xs1, h1, Option.bind_some, h2, Option.bind_some, h3]
theorem f_nil {fn : D → Env2 → G → Option Out} : forLoop fn [] e g = some (.nx e g) := rfl
theorem f_cons {fn : D → Env2 → G → Option Out} {xs : List D} (h1 : fn x e g = some (.nx e' g1)) (h2 : forLoop fn xs e' g1 = ro) : forLoop fn (x :: xs) e g = ro := by
  show ((fn x e g).bind _) = _
  rw [h1]; exact h2
/-! ### ints -/
theorem b_add (i j : Int) : binop .add (.int i) (.int j) = some (.int (i + j)) := rfl
theorem b_subI (i j : Int) : binop .sub (.int i) (.int j) = some (.int (i - j)) := rfl
theorem b_mul {i j : Int} (h : mulOk i j = true) : binop .mul (.int i) (.int j) = some (.int (i * j)) := by
  show (if mulOk i j then some (D.int (i * j)) else none) = _; rw [h]; rfl
theorem b_mod {i j : Int} (h : 0 < j) : binop .mod (.int i) (.int j) = some (.int (i % j)) := by
  show (if decide (0 < j) then some (D.int (i % j)) else none) = _; rw [decide_eq_true h]; rfl
theorem b_fdiv {i j : Int} (h : 0 < j) (h2 : j < 1073741824) : binop .fdiv (.int i) (.int j) = some (.int (i / j)) := by
  show (if decide (0 < j) && decide (j < 1073741824) then some (D.int (i / j)) else none) = _; rw [decide_eq_true h, decide_eq_true h2]; rfl
theorem mulR (i : Int) {j : Int} (h : -(2 ^ 64) < j ∧ j < 2 ^ 64) : mulOk i j = true := by unfold mulOk; rw [decide_eq_true h, Bool.or_true]
theorem mulL {i : Int} (j : Int) (h : -(2 ^ 64) < i ∧ i < 2 ^ 64) : mulOk i j = true := by unfold mulOk; rw [decide_eq_true h, Bool.true_or]
theorem dl_ii (i j : Int) : PySem.W.dataLt (.int i) (.int j) = decide (i < j) := by
  first
    | exact PySem.W.dataLt_int i j
    | exact PySem.W.dataLt_int
    | simp [PySem.W.dataLt, PySem.W.keyToks, PyProof.Rows.lexLt, PyProof.Rows.itemOrd]
theorem lt_ii (i j : Int) : ltD (.int i) (.int j) = some (decide (i < j)) := by
  show (if (PySem.W.alike (.int i) (.int j) && (PyData.depth (.int i) ≤ 60 : Bool) && notNone (.int i)) = true then some (PySem.W.dataLt (.int i) (.int j)) else none) = _
  have a : PySem.W.alike (.int i) (.int j) = true := by first | rfl | (unfold PySem.W.alike; rfl) | simp [PySem.W.alike]
  have b : (decide (PyData.depth (.int i) ≤ 60)) = true := by first | rfl | simp [PyData.depth]
  rw [a, b, dl_ii]; rfl
theorem c_gt (i j : Int) : cmpD .gt (.int i) (.int j) = some (decide (j < i)) := lt_ii j i
theorem eq_ii (i j : Int) : eqD (.int i) (.int j) = some (decide (i = j)) := by
  show (if SeqAt.shaped (.int i) && SeqAt.shaped (.int j) then some (PyData.eqv (.int i) (.int j)) else none) = _
  have a : ∀ i, SeqAt.shaped (.int i) = true := fun i => by first | rfl | simp [SeqAt.shaped, PyData.canLay0, PyData.depth]
  rw [a, a]
  show some (PyData.eqv (.int i) (.int j)) = _
  have b : PyData.eqv (.int i) (.int j) = decide (i = j) := by
    first
      | rfl
      | (simp only [PyData.eqv]; rfl)
      | (simp only [PyData.eqv]; by_cases h : i = j <;> simp [h])
  rw [b]
theorem c_eq (i j : Int) : cmpD .eq (.int i) (.int j) = some (decide (i = j)) := eq_ii i j
end
end VL
/-! K01q: what the draws do. -/
namespace VL
open PySem
/-- a def as its body's run -/
def runD (Φ : Phi) (b : List VL.St) (N n : Nat) : List D → G → Option (D × G) := fun ds g => match xss Φ rlK b (env0 N n ds) g with
  | some (.rt d g') => some (d, g')
  | some (.nx _ g') => some (.non, g')
  | _ => none
def addF (x : Str) (f : List D → G → Option (D × G)) (Φ : Phi) : Phi := fun y => if y = x then f else Φ y
theorem run_rt {Φ : Phi} {b : List VL.St} {N n : Nat} {ds : List D} {g g' : G} {d : D} (h : xss Φ rlK b (env0 N n ds) g = some (.rt d g')) : runD Φ b N n ds g = some (d, g') := by unfold runD; rw [h]
def P0 : Phi := fun _ _ _ => none
def P1 : Phi := addF "_law_mixed" (runD P0 b_law_mixed 4 3) P0
def P2 : Phi := addF "_law_draw" (runD P1 b_law_draw 5 2) P1
def P3 : Phi := addF "_law_one_of" (runD P2 b_law_one_of 2 2) P2
def P4 : Phi := addF "_law_word" (runD P3 b_law_word 3 1) P3
def P5 : Phi := addF "_law_purse" (runD P4 b_law_purse 3 2) P4
def P6 : Phi := addF "_law_purses" (runD P5 b_law_purses 3 2) P5
def P7 : Phi := addF "_law_first" (runD P6 b_law_first 2 1) P6
def P8 : Phi := addF "_law_called" (runD P7 b_law_called 2 1) P7
def P9 : Phi := addF "_law_bare" (runD P8 b_law_bare 1 0) P8
def P10 : Phi := addF "_law_code" (runD P9 b_law_code 3 1) P9
def P11 : Phi := addF "_law_is_error" (runD P10 b_law_is_error 1 1) P10
def P12 : Phi := addF "_law_right" (runD P11 b_law_right 4 2) P11
def mixedI (a b c : Int) : Int :=
  let h := (a * 69069 + 104729 * b * b + 7919 * c + b) % 2147483647
  let h2 := (h * h + 40503) % 2147483629
  (h2 * 48271) % 2147483587
theorem v_mixed (a b c : Int) (g : G) (h1 : 0 ≤ b) (h2 : b < 1000000) : P1 "_law_mixed" [.int a, .int b, .int c] g = some (.int (mixedI a b c), g) := by
  have m1 : mulOk a 69069 = true := mulR a (by omega)
  have m2 : mulOk 104729 b = true := mulL b (by omega)
  have m3 : mulOk (104729 * b) b = true := mulR _ (by omega)
  have m4 : mulOk 7919 c = true := mulL c (by omega)
  have m5 : ∀ x : Int, mulOk (x % 2147483647) (x % 2147483647) = true := fun x => mulR _ (by omega)
  have m6 : ∀ x : Int, mulOk x 48271 = true := fun x => mulR _ (by omega)
  refine run_rt (Φ := P0) ?_
  refine x_nx (x_set (e_bin (e_bin (e_var rfl) e_int (b_mul m1)) (e_bin (e_bin e_int (e_var rfl) (b_mul m2)) (e_var rfl) (b_mul m3)) (b_add _ _)) (by simp [env0]) (setW rfl rfl)) ?_
  refine x_nx (x_set (e_bin (e_bui (es_cons (e_bin (e_bin (e_var rfl) (e_bin e_int (e_var rfl) (b_mul m4)) (b_add _ _)) (e_var rfl) (b_add _ _)) es_nil) rfl) e_int (b_mod (by omega))) (by simp [env0]) (setW rfl rfl)) ?_
  refine x_nx (x_set (e_bin (e_bui (es_cons (e_bin (e_bin (e_var rfl) (e_var rfl) (b_mul (m5 _))) e_int (b_add _ _)) es_nil) rfl) e_int (b_mod (by omega))) (by simp [env0]) (setW rfl rfl)) ?_
  exact x_rt (x_ret (e_bin (e_bui (es_cons (e_bin (e_var rfl) e_int (b_mul (m6 _))) es_nil) rfl) e_int (b_mod (by omega))))
end VL
/-! K01r: a draw. -/
namespace VL
open PySem
theorem s_cel {g : G} {c : Nat} {xs : List D} {k : Int} {d : D} (hg : (g : List (List D))[c]? = some xs) (h : L2.atI xs k = some d) : subscr g (.cel c) (.int k) = some d := by
  show ((g : List (List D))[c]?).bind _ = _
  rw [hg]; exact h
theorem cd_set {g : G} {c : Nat} {xs : List D} {k : Int} {j : Int} (hg : (g : List (List D))[c]? = some xs) (h0 : 0 ≤ k) (h1 : k.toNat < xs.length) : celD (.cel c) (.int k) (.int j) g = some (g.set c (xs.set k.toNat (.int j))) := by
  show ((g : List (List D))[c]?).bind _ = _
  rw [hg, Option.bind_some, decide_eq_true h0, decide_eq_true h1]; rfl
theorem set_get {g : G} {c : Nat} {xs ys : List D} (hg : (g : List (List D))[c]? = some xs) : ((g.set c ys : G) : List (List D))[c]? = some ys := List.getElem?_set_self (List.getElem?_eq_some_iff.mp hg).1
abbrev dice (a b c d : Int) : List D := [.int a, .int b, .int c, .int d]
theorem v_draw {c : Nat} {n d0 d1 d2 d3 : Int} {g : G} (hg : (g : List (List D))[c]? = some (dice d0 d1 d2 d3)) (h0 : 0 < n) (h1 : n < 134217728) (hb : ((Builtin.Int.intBits n : Nat) : Int) / 28 = 0) (h2 : 0 ≤ d2) (h3 : d2 < 900000) :
    ∃ r a b, P2 "_law_draw" [.cel c, .int n] g = some (.int r, g.set c (dice a d1 b d3)) ∧ 0 ≤ r ∧ r < n ∧ d2 ≤ b ∧ b ≤ d2 + 1 := by
  have hv0 : ∀ {e : VL.Env} {g' : G} {xs : List D} {k : Int} {d : D}, e[0]? = some (some (.cel c)) → (g' : List (List D))[c]? = some xs → L2.atI xs k = some d → ev P1 (.sub (.var 0) (.int k)) e g' = some (d, g') :=
    fun he hg' hk => e_sub (e_var he) e_int (s_cel hg' hk)
  by_cases hp : 0 < d0
  · refine ⟨d0 % n, d0 / n, d2, run_rt (Φ := P1) ?_, Int.emod_nonneg _ (by omega), Int.emod_lt_of_pos _ h0, by omega, by omega⟩
    refine x_rt (x_if1 (e_cmp (hv0 rfl hg rfl) e_int (c_gt _ _)) (by rw [decide_eq_true hp]; rfl) ?_)
    refine x_nx (x_set (e_bin (e_bui (es_cons (hv0 rfl hg rfl) es_nil) rfl) (e_var rfl) (b_mod h0)) (by simp [env0]) (setW rfl rfl)) ?_
    refine x_nx (x_cst (e_bin (hv0 rfl hg rfl) (e_var rfl) (b_fdiv h0 (by omega))) (e_var rfl) e_int (cd_set hg (by omega) (by simp [dice]))) ?_
    exact x_rt (x_ret (e_var rfl))
  · have hg2 : ((g.set c (dice d0 d1 (d2 + 1) d3) : G) : List (List D))[c]? = some (dice d0 d1 (d2 + 1) d3) := set_get hg
    refine ⟨mixedI d1 (d2 + 1) d3 % n, d0, d2 + 1, run_rt (Φ := P1) ?_, Int.emod_nonneg _ (by omega), Int.emod_lt_of_pos _ h0, by omega, by omega⟩
    refine x_nx (x_if0 (e_cmp (hv0 rfl hg rfl) e_int (c_gt _ _)) (by rw [decide_eq_false hp]; rfl) x_nil) ?_
    refine x_nx (x_set e_int (by simp [env0]) (setW rfl rfl)) ?_
    have hit : iter g .rng1 [.int (1 + ((Builtin.Int.intBits n : Nat) : Int) / 28)] = some [.int 0] := by
      rw [hb]
      show (if rngOk 0 1 = true then some (rngL 0 (1 : Int).toNat) else none) = _
      have : rngOk 0 1 = true := by unfold rngOk; exact decide_eq_true (by omega)
      rw [this]; rfl
    refine x_nx (x_for (es_cons (e_bin e_int (e_bin (e_bme (e_var rfl) es_nil rfl) e_int (b_fdiv (by omega) (by omega))) (b_add _ _)) es_nil) hit (f_cons (e' := [some (.cel c, 0), some (.int n, 0), none, some (.int (0 * 2147483587 + mixedI d1 (d2 + 1) d3), 1), some (.int 0, 0)]) (g1 := g.set c (dice d0 d1 (d2 + 1) d3)) ?_ f_nil)) ?_
    · refine x_nx (x_cst (e_bin (hv0 rfl hg rfl) e_int (b_add _ _)) (e_var rfl) e_int (cd_set hg (by omega) (by simp [dice]))) ?_
      refine x_nx (x_set (e_bin (e_bin (e_var rfl) e_int (b_mul (mulR _ (by omega)))) (e_cal (es_cons (hv0 rfl hg2 rfl) (es_cons (hv0 rfl hg2 rfl) (es_cons (hv0 rfl hg2 rfl) es_nil))) (v_mixed _ _ _ _ (by omega) (by omega))) (b_add _ _)) (show 3 < 5 by decide) (setW rfl rfl)) ?_
      exact x_nil
    · refine x_rt (x_ret (e_bin (e_bui (es_cons (e_var rfl) es_nil) rfl) (e_var rfl) ?_))
      rw [b_mod h0, Int.zero_mul, Int.zero_add]
end VL
/-! K01s: one of some, a word. -/
namespace VL
open PySem
/-- the dice stand in cell c, at most m draws were made without luck -/
def Dc (g : G) (c : Nat) (d1 d3 : Int) (m : Nat) : Prop := ∃ a b, (g : List (List D))[c]? = some (dice a d1 b d3) ∧ 0 ≤ b ∧ b ≤ (m : Int)
theorem Dc.draw {c m : Nat} {n d1 d3 : Int} {g : G} (h : Dc g c d1 d3 m) (hm : m < 800000) (h0 : 0 < n) (h1 : n < 134217728) (hb : ((Builtin.Int.intBits n : Nat) : Int) / 28 = 0) :
    ∃ r g', P2 "_law_draw" [.cel c, .int n] g = some (.int r, g') ∧ 0 ≤ r ∧ r < n ∧ Dc g' c d1 d3 (m + 1) ∧ (g' : List (List D)).length = (g : List (List D)).length := by
  obtain ⟨a, b, hg, b0, b1⟩ := h
  obtain ⟨r, a', b', e, r0, r1, l0, l1⟩ := v_draw hg h0 h1 hb b0 (by omega)
  exact ⟨r, _, e, r0, r1, ⟨a', b', set_get hg, by omega, by omega⟩, by simp⟩
theorem s_lst {g : G} {xs : List D} {r : Int} (h0 : 0 ≤ r) (h1 : r < xs.length) : ∃ d, xs[r.toNat]? = some d ∧ subscr g (.lst xs) (.int r) = some d := by
  have hi : r.toNat < xs.length := by omega
  refine ⟨xs[r.toNat], List.getElem?_eq_getElem hi, ?_⟩
  show L2.atI xs r = _
  obtain ⟨k, rfl⟩ := Int.eq_ofNat_of_zero_le h0
  unfold L2.atI
  first
    | (rw [ixN_in (by simpa using hi)]; simp [List.getElem?_eq_getElem hi])
    | (have := ixN_in (n := xs.length) (i := k) (by simpa using hi); simp [this, List.getElem?_eq_getElem hi])
theorem v_one_of {c m : Nat} {d1 d3 : Int} {g : G} {xs : List D} (h : Dc g c d1 d3 m) (hm : m < 800000) (h0 : 0 < xs.length) (h1 : xs.length < 1000) (hb : ((Builtin.Int.intBits (xs.length : Int) : Nat) : Int) / 28 = 0) :
    ∃ d ∈ xs, ∃ g', P3 "_law_one_of" [.cel c, .lst xs] g = some (d, g') ∧ Dc g' c d1 d3 (m + 1) ∧ (g' : List (List D)).length = (g : List (List D)).length := by
  obtain ⟨r, g', e, r0, r1, h', hl⟩ := h.draw hm (n := (xs.length : Int)) (by omega) (by omega) hb
  obtain ⟨d, hd, hs⟩ := s_lst (g := g') (xs := xs) r0 r1
  refine ⟨d, List.mem_of_getElem? hd, g', run_rt (Φ := P2) (x_rt (x_ret (e_sub (e_var rfl) (e_cal (es_cons (e_var rfl) (es_cons (e_bui (es_cons (e_var rfl) es_nil) ?_) es_nil)) e) hs))), h', hl⟩
  show (if sz xs.length then some (D.int xs.length) else none) = _
  rw [show sz xs.length = true from decide_eq_true (by omega)]; rfl
/-- a word: at most eight signs, none of them great -/
structure Wd (w : Str) : Prop where
  len : w.length ≤ 8
  cod : ∀ k ∈ w.cps.toList, k < 1000
def abc : Str := "abcdefghijklmnopqrstuvwxyz"
def letterE : Ex := .sub (.str "abcdefghijklmnopqrstuvwxyz") (.cal "_law_draw" [.var 0, .int 26])
theorem v_letter {c m : Nat} {d1 d3 : Int} {g : G} {env : VL.Env} (h : Dc g c d1 d3 m) (hm : m < 800000) (he : env[0]? = some (some (.cel c))) :
    ∃ k g', ev P3 letterE env g = some (.str ⟨#[k]⟩, g') ∧ k < 1000 ∧ Dc g' c d1 d3 (m + 1) ∧ (g' : List (List D)).length = (g : List (List D)).length := by
  obtain ⟨r, g', e, r0, r1, h', hl⟩ := h.draw hm (n := 26) (by omega) (by omega) (by decide +kernel)
  have hab : abc.cps.toList.length = 26 := by decide +kernel
  have hall : ∀ k ∈ abc.cps.toList, k < 1000 := by decide +kernel
  have hi : r.toNat < abc.cps.toList.length := by omega
  refine ⟨abc.cps.toList[r.toNat], g', e_sub e_str (e_cal (es_cons (e_var he) (es_cons e_int es_nil)) e) ?_, hall _ (List.getElem_mem hi), h', hl⟩
  show (if sz abc.length then (L2.atI abc.cps.toList r).map fun k => D.str ⟨#[k]⟩ else none) = _
  rw [show sz abc.length = true from by decide +kernel]
  obtain ⟨k, rfl⟩ := Int.eq_ofNat_of_zero_le r0
  have hk : L2.atI abc.cps.toList (k : Int) = some abc.cps.toList[k] := by
    unfold L2.atI
    first
      | (rw [ixN_in (by simpa using hi)]; simp [List.getElem?_eq_getElem (show k < abc.cps.toList.length by simpa using hi)])
      | (have := ixN_in (n := abc.cps.toList.length) (i := k) (by simpa using hi); simp [this])
  rw [if_pos rfl]
  show (L2.atI abc.cps.toList (k : Int)).map _ = _
  rw [hk]; rfl
end VL
/-! K01t: a word, the purses. -/
namespace VL
open PySem
theorem e_lc {Φ : Phi} {t : Tg} {k : ItK} {ies ifs : List Ex} {elt : Ex} {env : VL.Env} {g g1 g2 : G} {ds xs zs : List D} (h1 : evs Φ ies env g = some (ds, g1)) (h2 : iter g1 k ds = some xs)
    (h3 : lcLoop (fun x g => (bindT t x (wipeE env (slots t))).bind fun env' => (evb Φ true ifs env' g).bind fun c => if c.1 then (ev Φ elt env' c.2).map fun y => (some y.1, y.2) else some (none, c.2)) xs g1 = some (zs, g2)) (h4 : sz zs.length = true) :
    ev Φ (.lc t k ies ifs elt) env g = some (.lst zs, g2) := by
  rw [ev, h1, Option.bind_some, h2, Option.bind_some, h3, Option.bind_some, h4]; rfl
theorem lc_step {f : D → G → Option (Option D × G)} {x d : D} {r zs : List D} {g g1 g2 : G} (h1 : f x g = some (some d, g1)) (h2 : lcLoop f r g1 = some (zs, g2)) : lcLoop f (x :: r) g = some (d :: zs, g2) := by
  rw [lcLoop, h1, Option.bind_some, h2]; rfl
theorem lc_skip {f : D → G → Option (Option D × G)} {x : D} {r zs : List D} {g g1 g2 : G} (h1 : f x g = some (none, g1)) (h2 : lcLoop f r g1 = some (zs, g2)) : lcLoop f (x :: r) g = some (zs, g2) := by
  rw [lcLoop, h1, Option.bind_some, h2]; rfl
theorem eb_nil {Φ : Phi} {t : Bool} {env : VL.Env} {g : G} : evb Φ t [] env g = some (t, g) := by rw [evb]
theorem lc_letters {c : Nat} {d1 d3 : Int} {n : Int} : ∀ (xs : List D) (g : G) (m : Nat), Dc g c d1 d3 m → m + xs.length < 800000 →
    ∃ (ks : List Nat) (g' : G), lcLoop (fun x g => (bindT (.nm 2) x (wipeE [some (.cel c), some (.int n), none] (slots (.nm 2)))).bind fun env' => (evb P3 true [] env' g).bind fun c => if c.1 then (ev P3 letterE env' c.2).map fun y => (some y.1, y.2) else some (none, c.2)) xs g
      = some (ks.map (fun k => .str ⟨#[k]⟩), g') ∧ ks.length = xs.length ∧ (∀ k ∈ ks, k < 1000) ∧ Dc g' c d1 d3 (m + xs.length) ∧ (g' : List (List D)).length = (g : List (List D)).length
  | [], g, m, h, _ => ⟨[], g, rfl, rfl, (fun _ z => nomatch z), h, rfl⟩
  | x :: xs, g, m, h, hm => by
    rw [List.length_cons] at hm
    obtain ⟨k, g1, e1, hk, h1, l1⟩ := v_letter (env := [some (.cel c), some (.int n), some x]) h (by omega) rfl
    obtain ⟨ks, g2, e2, hl, hks, h2, l2⟩ := lc_letters xs g1 (m + 1) h1 (by omega)
    refine ⟨k :: ks, g2, lc_step (g1 := g1) ?_ e2, by simp [hl], fun z hz => ?_, ?_, by omega⟩
    · rw [show bindT (.nm 2) x (wipeE [some (.cel c), some (.int n), none] (slots (.nm 2))) = some [some (.cel c), some (.int n), some x] from rfl, Option.bind_some, eb_nil, Option.bind_some, if_pos rfl, e1]; rfl
    · rcases List.mem_cons.mp hz with rfl | hz
      · exact hk
      · exact hks z hz
    · rw [List.length_cons, show m + (xs.length + 1) = m + 1 + xs.length by omega]; exact h2
theorem join_codes : ∀ zs : List Str, (∀ z ∈ zs, ∀ k ∈ z.cps.toList, k < 1000) → ∀ k ∈ (Str.join "" zs).cps.toList, k < 1000
  | [], _, k, h => by
    have : (Str.join "" []).cps.toList = [] := by first | rfl | decide +kernel
    rw [this] at h; cases h
  | [z], hz, k, h => hz z (by simp) k h
  | z :: y :: r, hz, k, h => by
    have e : (Str.join "" (z :: y :: r)) = z ++ "" ++ Str.join "" (y :: r) := rfl
    rw [e, PySem.W.KT.app_list, PySem.W.KT.app_list] at h
    rcases List.mem_append.mp h with h | h
    · rcases List.mem_append.mp h with h | h
      · exact hz z (by simp) k h
      · have e0 : (("" : String) : Str).cps.toList = [] := by decide +kernel
        rw [e0] at h; cases h
    · exact join_codes (y :: r) (fun z' h' => hz z' (List.mem_cons_of_mem _ h')) k h
theorem asStr_all (zs : List Str) : allSome ((zs.map D.str).map asStr) = some zs := by
  induction zs with
  | nil => rfl
  | cons z r ih =>
    rw [List.map_cons, List.map_cons, allSome, ih]; rfl
theorem v_join {g : G} {ks : List Nat} (hl : ks.length ≤ 8) (hk : ∀ k ∈ ks, k < 1000) : ∃ w, bme g .join (.str "") [.lst (ks.map fun k => .str ⟨#[k]⟩)] = some (.str w) ∧ Wd w := by
  have e0 : (ks.map fun k => D.str ⟨#[k]⟩) = (ks.map fun k => (⟨#[k]⟩ : Str)).map D.str := by rw [List.map_map]; rfl
  refine ⟨Txt.join "" (ks.map fun k => (⟨#[k]⟩ : Str)), ?_, ?_, fun k h => ?_⟩
  · rw [e0]
    show (allSome _).bind _ = _
    rw [asStr_all, Option.bind_some]
    have hs : ((ks.map fun k => (⟨#[k]⟩ : Str)).map (·.length)).sum = ks.length := by
      clear hk hl e0
      induction ks with
      | nil => rfl
      | cons k r ih => rw [List.map_cons, List.map_cons, List.sum_cons, ih, List.length_cons, Nat.add_comm]; rfl
    rw [hs]
    have hz : (("" : String) : Str).length = 0 := by decide +kernel
    rw [hz, Nat.zero_mul, Nat.add_zero, show sz ks.length = true from decide_eq_true (by omega)]; rfl
  · rw [PySem.W.KT.join_ones _ (by
      intro a ha
      obtain ⟨k, _, rfl⟩ := List.mem_map.mp ha
      rfl), List.length_map]; exact hl
  · have e : Txt.join "" (ks.map fun k => (⟨#[k]⟩ : Str)) = Str.join "" (ks.map fun k => (⟨#[k]⟩ : Str)) := StrLaws.glued_eq_join _ _
    rw [e] at h
    refine join_codes _ (fun z hz k' hk' => ?_) k h
    obtain ⟨q, hq, rfl⟩ := List.mem_map.mp hz
    have : k' = q := by simpa using hk'
    rw [this]; exact hk q hq
theorem v_word {c : Nat} {d1 d3 : Int} {g : G} (h : Dc g c d1 d3 0) : ∃ w g', P4 "_law_word" [.cel c] g = some (.str w, g') ∧ Wd w ∧ Dc g' c d1 d3 20 ∧ (g' : List (List D)).length = (g : List (List D)).length := by
  obtain ⟨r, g1, e1, r0, r1, h1, l1⟩ := h.draw (n := 8) (by omega) (by omega) (by omega) (by decide +kernel)
  have up : ∀ {g : G} {m : Nat}, Dc g c d1 d3 m → m ≤ 20 → Dc g c d1 d3 20 := fun ⟨a, b, q1, q2, q3⟩ hm => ⟨a, b, q1, q2, by omega⟩
  by_cases hr : r = 0
  · subst hr
    obtain ⟨d, hd, g2, e2, h2, l2⟩ := v_one_of (xs := [.str "send", .str "take", .str "lie", .str "to", .str "from"]) h1 (by omega) (by simp) (by simp) (by decide +kernel)
    obtain ⟨w, rfl, hw⟩ : ∃ w, d = .str w ∧ Wd w := by
      simp only [List.mem_cons, List.not_mem_nil, or_false] at hd
      rcases hd with rfl | rfl | rfl | rfl | rfl <;> exact ⟨_, rfl, by decide +kernel, by decide +kernel⟩
    refine ⟨w, g2, run_rt (Φ := P3) (x_rt (x_if1 (e_cmp (e_cal (es_cons (e_var rfl) (es_cons e_int es_nil)) e1) e_int (c_eq _ _)) rfl (x_rt (x_ret (e_cal (es_cons (e_var rfl) (es_cons (e_lst (es_cons e_str (es_cons e_str (es_cons e_str (es_cons e_str (es_cons e_str es_nil))))) (by decide +kernel)) es_nil)) e2))))), hw, up h2 (by omega), by omega⟩
  · obtain ⟨r2, g2, e2, _, _, h2, l2⟩ := h1.draw (n := 3) (by omega) (by omega) (by omega) (by decide +kernel)
    obtain ⟨n, hn, he⟩ : ∃ n : Int, (n = 8 ∨ n = 3) ∧ ev P3 (.ite (.cmp .eq (.cal "_law_draw" [.var 0, .int 3]) (.int 0)) (.int 8) (.int 3)) [some (.cel c), none, none] g1 = some (.int n, g2) := by
      by_cases hr2 : r2 = 0
      · exact ⟨8, .inl rfl, e_ite1 (e_cmp (e_cal (es_cons (e_var rfl) (es_cons e_int es_nil)) e2) e_int (c_eq _ _)) (by rw [decide_eq_true hr2]; rfl) e_int⟩
      · exact ⟨3, .inr rfl, e_ite0 (e_cmp (e_cal (es_cons (e_var rfl) (es_cons e_int es_nil)) e2) e_int (c_eq _ _)) (by rw [decide_eq_false hr2]; rfl) e_int⟩
    obtain ⟨r3, g3, e3, r30, r31, h3, l3⟩ := h2.draw (n := n) (by omega) (by rcases hn with rfl | rfl <;> omega) (by rcases hn with rfl | rfl <;> omega) (by rcases hn with rfl | rfl <;> decide +kernel)
    have hlen : (1 + r3).toNat ≤ 8 := by rcases hn with rfl | rfl <;> omega
    have hit : iter g3 .rng1 [.int (1 + r3)] = some (rngL 0 (1 + r3).toNat) := by
      show (if rngOk 0 (1 + r3) = true then some (rngL 0 (1 + r3).toNat) else none) = _
      rw [show rngOk 0 (1 + r3) = true from by unfold rngOk; exact decide_eq_true (by rcases hn with rfl | rfl <;> omega)]; rfl
    have hrl : (rngL 0 (1 + r3).toNat).length = (1 + r3).toNat := by unfold rngL; simp
    obtain ⟨ks, g4, e4, kl, hks, h4, l4⟩ := lc_letters (n := 1 + r3) (rngL 0 (1 + r3).toNat) g3 3 h3 (by omega)
    obtain ⟨w, ew, hw⟩ := v_join (g := g4) (ks := ks) (by omega) hks
    refine ⟨w, g4, run_rt (Φ := P3) (x_nx (x_if0 (e_cmp (e_cal (es_cons (e_var rfl) (es_cons e_int es_nil)) e1) e_int (c_eq _ _)) (by rw [decide_eq_false hr]; rfl) x_nil) (x_nx (x_set (e_bin e_int (e_cal (es_cons (e_var rfl) (es_cons he es_nil)) e3) (b_add _ _)) (show 1 < 3 by decide) (setW rfl rfl)) (x_rt (x_ret (e_bme e_str (es_cons (e_lc (es_cons (e_var rfl) es_nil) hit e4 ?_) es_nil) ew))))), hw, up h4 (by omega), by omega⟩
    rw [List.length_map]
    exact decide_eq_true (by omega)
end VL
/-! K01u: the purses. -/
namespace VL
open PySem
theorem b_pow {i j : Int} (h : (decide (0 ≤ j) && decide ((Builtin.Int.intBits i : Int) * j ≤ 2 ^ 27)) = true) : binop .pow (.int i) (.int j) = some (.int (i ^ j.toNat)) := by
  show (if decide (0 ≤ j) && decide ((Builtin.Int.intBits i : Int) * j ≤ 2 ^ 27) then some (D.int (i ^ j.toNat)) else none) = _
  rw [h]; rfl
theorem x_retc {Φ : Phi} {rl : Str → Nat} {ms : List Ex} {e : Env2} {g g1 : G} {ds : List D} (h1 : evs Φ ms (vw e) g = some (ds, g1)) (h2 : (ds.all (fun d => match d with | .int _ => true | _ => false) && sz ds.length) = true) :
    xs1 Φ rl (.retc ms) e g = some (.rt (.cel g1.length) (g1 ++ [ds])) := by rw [xs1, h1, Option.bind_some]; exact if_pos h2
theorem e_sli {Φ : Phi} {a : Ex} {lo hi : List Ex} {env : VL.Env} {g g1 g2 g3 : G} {x d : D} {ls hs : List D} {l h : Option Int} (h1 : ev Φ a env g = some (x, g1)) (h2 : evs Φ lo env g1 = some (ls, g2)) (h3 : evs Φ hi env g2 = some (hs, g3)) (h4 : endOf ls = some l) (h5 : endOf hs = some h)
    (h6 : sliD x l h = some d) : ev Φ (.sli a lo hi) env g = some (d, g3) := by rw [ev, h1, Option.bind_some, h2, Option.bind_some, h3, Option.bind_some, h4, Option.bind_some, h5, Option.bind_some, h6]; rfl
theorem asInt_all (is : List Int) : allSome ((is.map D.int).map asInt) = some is := by
  induction is with
  | nil => rfl
  | cons z r ih => rw [List.map_cons, List.map_cons, allSome, ih]; rfl
def seedI (ns : List Int) : Int := (cut ns (some 0) (some 1)).sum
theorem v_purse {ns : List Int} {g : G} (hl : ns.length ≤ 1000) : ∃ a, P5 "_law_purse" [.scr ns, .int 0] g = some (.cel g.length, g ++ [dice a (seedI ns % 2147483629) 0 0]) := by
  have hp : (decide ((0 : Int) ≤ 18) && decide ((Builtin.Int.intBits 10 : Int) * 18 ≤ 2 ^ 27)) = true := by decide +kernel
  have hp2 : (decide ((0 : Int) ≤ 60) && decide ((Builtin.Int.intBits 10 : Int) * 60 ≤ 2 ^ 27)) = true := by decide +kernel
  have hp3 : (decide ((0 : Int) ≤ 8) && decide ((Builtin.Int.intBits ((10 : Int) ^ (60 : Int).toNat) : Int) * 8 ≤ 2 ^ 27)) = true := by decide +kernel
  have hpos : 0 < ((10 : Int) ^ (60 : Int).toNat) ^ (8 : Int).toNat := by decide +kernel
  have hsl : sliD (.scr ns) (some 0) (some 1) = some (.lst ((cut ns (some 0) (some 1)).map .int)) := by
    show (if sz ns.length then some (D.lst ((cut ns (some 0) (some 1)).map .int)) else none) = _
    rw [show sz ns.length = true from decide_eq_true (by omega)]; rfl
  have hsum : bui g .sum [.lst ((cut ns (some 0) (some 1)).map .int)] = some (.int (seedI ns)) := by
    show (allSome _).map _ = _
    rw [asInt_all]; rfl
  refine ⟨_, run_rt (Φ := P4) (x_nx (x_set (e_bui (es_cons (e_sli (e_var rfl) (es_cons (e_var rfl) es_nil) (es_cons (e_bin (e_var rfl) e_int (b_add _ _)) es_nil) rfl rfl hsl) es_nil) hsum) (show 2 < 3 by decide) (setW rfl rfl)) (x_rt (x_retc
    (es_cons (e_bin (e_bui (es_cons (e_bui (es_cons (e_bin (e_var rfl) (e_bin e_int e_int (b_pow hp)) (b_subI _ _)) (es_cons e_int es_nil)) rfl) es_nil) rfl) (e_bin (e_bin e_int e_int (b_pow hp2)) e_int (b_pow hp3)) (b_mod hpos))
      (es_cons (e_bin (e_bui (es_cons (e_var rfl) es_nil) rfl) e_int (b_mod (by omega))) (es_cons e_int (es_cons (e_var rfl) es_nil)))) (by rfl))))⟩
theorem v_purses {ns : List Int} (hl : ns.length ≤ 1000) : ∃ g, P6 "_law_purses" [.scr ns, .int 1] [] = some (.lst [.cel 0], g) ∧ Dc g 0 (seedI ns % 2147483629) 0 0 ∧ (g : List (List D)).length = 1 := by
  obtain ⟨a, e⟩ := v_purse (g := []) hl
  have e' : P5 "_law_purse" [.scr ns, .int 0] [] = some (.cel 0, [dice a (seedI ns % 2147483629) 0 0]) := e
  refine ⟨_, run_rt (Φ := P5) (x_rt (x_ret (e_lc (ds := [.int 1]) (xs := [.int 0]) (zs := [.cel 0]) (es_cons (e_bui (ds := [.int 1, .int (if (ns.length : Int) < 1 then (ns.length : Int) else 1)]) (es_cons e_int (es_cons (e_bui (d := .int (if (ns.length : Int) < 1 then (ns.length : Int) else 1)) (es_cons (e_var rfl) (es_cons (e_bui (d := .int (ns.length : Int)) (es_cons (e_var rfl) es_nil) ?_) es_nil)) ?_) es_nil)) ?_) es_nil) ?_ (lc_step (g1 := [dice a (seedI ns % 2147483629) 0 0]) ?_ rfl) rfl))), ⟨a, 0, rfl, by omega, by omega⟩, rfl⟩
  · show (if sz ns.length then some (D.int ns.length) else none) = _
    rw [show sz ns.length = true from decide_eq_true (by omega)]; rfl
  · rfl
  · show some (D.int (if (if (ns.length : Int) < 1 then (ns.length : Int) else 1) > 1 then _ else 1)) = _
    by_cases h : (ns.length : Int) < 1
    · rw [if_pos h, if_neg (by omega)]
    · rw [if_neg h, if_neg (by omega)]
  · show (if rngOk 0 1 = true then some (rngL 0 (1 : Int).toNat) else none) = _
    have : rngOk 0 1 = true := by unfold rngOk; exact decide_eq_true (by omega)
    rw [this]; rfl
  · rw [show bindT (.nm 2) (.int 0) (wipeE (vw (env0 3 2 [.scr ns, .int 1])) (slots (.nm 2))) = some [some (.scr ns), some (.int 1), some (.int 0)] from rfl, Option.bind_some, eb_nil, Option.bind_some, if_pos rfl, e_cal (es_cons (e_var rfl) (es_cons (e_var rfl) es_nil)) e']; rfl
end VL
/-! K01v: the errors made, their codes. -/
namespace VL
open PySem
def errsD (d : D) : D := .lst (ersK.map fun c => .exn c [d])
theorem v_first (d : D) (g : G) : P7 "_law_first" [d] g = some (errsD d, g) := by kernel_rfl
theorem v_called (d : D) (g : G) : P8 "_law_called" [d] g = some (errsD d, g) := by kernel_rfl
theorem v_bare (g : G) : P9 "_law_bare" [] g = some (errsD .non, g) := by kernel_rfl
/-- the codes of all 28, in turn -/
def codesD : List D := (List.range 28).map fun (k : Nat) => D.lst [.int (k : Int)]
theorem v_code0 (d : D) (g : G) : ersK.map (fun c => P10 "_law_code" [.exn c [d]] g) = codesD.map fun y => some (y, g) := by kernel_rfl
theorem v_codes (Φ : Phi) (h : Φ "_law_code" = P10 "_law_code") (d : D) (g : G) (env : VL.Env) (he : env[0]? = some (some (errsD d))) (h2 : env[2]? = some none) :
    ev Φ (.lc (.nm 2) .val [.var 0] [] (.cal "_law_code" [.var 2])) env g = some (.lst codesD, g) := by
  have key : ∀ (cs : List Str) (ys : List D), (∀ (i : Nat) (c : Str), cs[i]? = some c → ∃ y, ys[i]? = some y ∧ ∀ g, P10 "_law_code" [.exn c [d]] g = some (y, g)) → cs.length = ys.length → 
      lcLoop (fun x g => (bindT (.nm 2) x (wipeE env (slots (.nm 2)))).bind fun env' => (evb Φ true [] env' g).bind fun c => if c.1 then (ev Φ (.cal "_law_code" [.var 2]) env' c.2).map fun y => (some y.1, y.2) else some (none, c.2)) (cs.map fun c => .exn c [d]) g = some (ys, g) := by
    intro cs
    induction cs with
    | nil =>
      intro ys _ hl
      cases ys with
      | nil => rfl
      | cons => cases hl
    | cons c cs ih =>
      intro ys hy hl
      cases ys with
      | nil => cases hl
      | cons y ys =>
        obtain ⟨y', e1, e2⟩ := hy 0 c rfl
        cases e1
        refine lc_step (g1 := g) ?_ (ih ys (fun i c h => hy (i + 1) c h) (by simpa using hl))
        have hb : bindT (.nm 2) (.exn c [d]) (wipeE env (slots (.nm 2))) = some ((env.set 2 none).set 2 (some (.exn c [d]))) := rfl
        have hv : ((env.set 2 none).set 2 (some (.exn c [d])) : VL.Env)[2]? = some (some (.exn c [d])) := by
          rw [List.getElem?_set_self]
          rw [List.length_set]
          exact (List.getElem?_eq_some_iff.mp h2).1
        rw [hb, Option.bind_some, eb_nil, Option.bind_some, if_pos rfl, e_cal (es_cons (e_var hv) es_nil) (r := some (y, g)) (by rw [h]; exact e2 g)]; rfl
  refine e_lc (es_cons (e_var he) es_nil) rfl (key ersK codesD (fun i c hc => ?_) (by decide +kernel)) (by decide +kernel)
  have hi : i < codesD.length := by
    have := (List.getElem?_eq_some_iff.mp hc).1
    have e : ersK.length = codesD.length := by decide +kernel
    omega
  refine ⟨codesD[i], List.getElem?_eq_getElem hi, fun g => ?_⟩
  have z := congrArg (fun l => l[i]?) (v_code0 d g)
  simp only [List.getElem?_map, hc, List.getElem?_eq_getElem hi, Option.map_some] at z
  exact Option.some.inj z
theorem v_codeX (g : G) : P10 "_law_code" [.exn "NothingToUndo" []] g = some (.lst [.int 28], g) ∧ P10 "_law_code" [.exn "NothingToRedo" []] g = some (.lst [.int 29], g) ∧ P10 "_law_code" [.exn "PostError" []] g = some (.lst [], g) :=
  ⟨by kernel_rfl, by kernel_rfl, by kernel_rfl⟩
theorem v_isE (fs : List D) (g : G) : ensK.map (fun c => P11 "_law_is_error" [.exn c fs] g) = ensK.map fun _ => some (.bl true, g) := by kernel_rfl
end VL
/-! K01w: what is right. -/
namespace VL
open PySem
section
variable {Φ : Phi} {env : VL.Env} {g g1 g2 : G} {x y d : D} {a b : Ex} {es : List Ex} {t u : Bool} {r : Option (Bool × G)}
theorem eb_go (h1 : ev Φ a env g = some (x, g1)) (h2 : truth x = some t) (h3 : evb Φ t es env g1 = r) : evb Φ t (a :: es) env g = r := by
  rw [evb, h1, Option.bind_some, h2, Option.bind_some, beq_self_eq_true, if_pos rfl, h3]
theorem eb_stop (h1 : ev Φ a env g = some (x, g1)) (h2 : truth x = some (!t)) : evb Φ t (a :: es) env g = some (!t, g1) := by
  rw [evb, h1, Option.bind_some, h2, Option.bind_some]; cases t <;> rfl
theorem e_bop (h : evb Φ t es env g = some (u, g1)) : ev Φ (.bop t es) env g = some (.bl u, g1) := by rw [ev, h]; rfl
theorem e_atv {ns : List Str} (h1 : ev Φ a env g = some (x, g1)) (h2 : atvD ns x = some d) : ev Φ (.atv ns a) env g = some (d, g1) := by rw [ev, h1, Option.bind_some, h2]; rfl
theorem eq_ss (x y : Str) : eqD (.str x) (.str y) = some (decide (x = y)) := rfl
theorem c_ne_ss (x : Str) : cmpD .ne (.str x) (.str x) = some false := by
  show (eqD (.str x) (.str x)).map not = _
  rw [eq_ss, decide_eq_true rfl]; rfl
theorem c_eq_ss (x : Str) : cmpD .eq (.str x) (.str x) = some true := by
  show eqD (.str x) (.str x) = _
  rw [eq_ss, decide_eq_true rfl]
end
theorem lc_none {f : D → G → Option (Option D × G)} {g : G} : ∀ (xs : List D), (∀ x ∈ xs, f x g = some (none, g)) → lcLoop f xs g = some ([], g)
  | [], _ => rfl
  | x :: r, h => lc_skip (h x (by simp)) (lc_none r fun y hy => h y (List.mem_cons_of_mem _ hy))
theorem isE_at {c : Str} (hc : c ∈ ensK) (fs : List D) (g : G) : P11 "_law_is_error" [.exn c fs] g = some (.bl true, g) := by
  have z := v_isE fs g
  obtain ⟨i, hi, rfl⟩ := List.mem_iff_getElem.mp hc
  have z2 := congrArg (fun l => l[i]?) z
  simp only [List.getElem?_map, List.getElem?_eq_getElem hi, Option.map_some] at z2
  exact Option.some.inj z2
theorem ers_sub : ∀ c ∈ ersK, c ∈ ensK := by decide +kernel
theorem right_each {d : D} {x : Str} (hx : reprD d = some x) (g : G) : ∀ y ∈ ersK.map fun c => D.exn c [d], (bindT (.nm 2) y (wipeE (vw (env0 4 2 [errsD d, .str x])) (slots (.nm 2)))).bind (fun env' => (evb P11 true [.bop false [.not (.cal "_law_is_error" [.var 2]), .cmp .ne (.bui .repr [.atv ensK (.var 2)]) (.var 1)]] env' g).bind fun c => if c.1 then (ev P11 (.var 2) env' c.2).map fun y => (some y.1, y.2) else some (none, c.2)) = some (none, g) := by
  intro y hy
  obtain ⟨c, hc, rfl⟩ := List.mem_map.mp hy
  have hce := ers_sub c hc
  have hb : bindT (.nm 2) (.exn c [d]) (wipeE (vw (env0 4 2 [errsD d, .str x])) (slots (.nm 2))) = some [some (errsD d), some (.str x), some (.exn c [d]), none] := rfl
  have e1 : ev P11 (.not (.cal "_law_is_error" [.var 2])) [some (errsD d), some (.str x), some (.exn c [d]), none] g = some (.bl false, g) := e_not (e_cal (es_cons (e_var rfl) es_nil) (isE_at hce [d] g)) rfl
  have e2 : ev P11 (.cmp .ne (.bui .repr [.atv ensK (.var 2)]) (.var 1)) [some (errsD d), some (.str x), some (.exn c [d]), none] g = some (.bl false, g) := by
    have a1 : atvD ensK (.exn c [d]) = some d := by
      show (if ensK.contains c then some d else none) = _
      rw [show ensK.contains c = true from by simpa using hce]; rfl
    have a2 : bui g .repr [d] = some (.str x) := by
      show (reprD d).map D.str = _
      rw [hx]; rfl
    exact e_cmp (e_bui (es_cons (e_atv (e_var rfl) a1) es_nil) a2) (e_var rfl) (c_ne_ss x)
  rw [hb, Option.bind_some, eb_stop (t := true) (e_bop (eb_go (t := false) e1 rfl (eb_go (t := false) e2 rfl eb_nil))) rfl]
  rfl
theorem v_right {d : D} {x : Str} (hx : reprD d = some x) (g : G) : P12 "_law_right" [errsD d, .str x] g = some (.bl true, g) := by
  have h0 : ev P11 (.lc (.nm 2) .val [.var 0] [] (.cal "_law_code" [.var 2])) (vw (env0 4 2 [errsD d, .str x])) g = some (.lst codesD, g) := v_codes P11 (by kernel_rfl) d g _ rfl rfl
  have h1 : ev P11 (.lc (.nm 3) .rng1 [.int 28] [] (.lst [.var 3])) (vw (env0 4 2 [errsD d, .str x])) g = some (.lst codesD, g) := by kernel_rfl
  have h2 : cmpD .ne (.lst codesD) (.lst codesD) = some false := by kernel_rfl
  have h3 : cmpD .eq (.lst []) (.lst []) = some true := by kernel_rfl
  have h4 : ev P11 (.lst []) (vw (env0 4 2 [errsD d, .str x])) g = some (.lst [], g) := e_lst es_nil rfl
  have h5 : iter g .val [errsD d] = some (ersK.map fun c => D.exn c [d]) := rfl
  have h6 : ev P11 (.lc (.nm 2) .val [.var 0] [.bop false [.not (.cal "_law_is_error" [.var 2]), .cmp .ne (.bui .repr [.atv ensK (.var 2)]) (.var 1)]] (.var 2)) (vw (env0 4 2 [errsD d, .str x])) g = some (.lst [], g) := by
    refine e_lc (es_cons (e_var rfl) es_nil) h5 (lc_none _ ?_) rfl
    exact right_each hx g
  have h7 : xs1 P11 rlK (.ife (.cmp .ne (.lc (.nm 2) .val [.var 0] [] (.cal "_law_code" [.var 2])) (.lc (.nm 3) .rng1 [.int 28] [] (.lst [.var 3]))) [.ret (.bl false)] []) (env0 4 2 [errsD d, .str x]) g = some (.nx (env0 4 2 [errsD d, .str x]) g) := x_if0 (e_cmp h0 h1 h2) rfl x_nil
  have h8 : xss P11 rlK b_law_right (env0 4 2 [errsD d, .str x]) g = some (.rt (.bl true) g) := by
    unfold b_law_right
    refine x_nx h7 ?_
    refine x_rt ?_
    refine x_ret ?_
    exact e_cmp h6 h4 h3
  rw [show P12 "_law_right" = runD P11 b_law_right 4 2 by kernel_rfl]
  exact run_rt h8
end VL
/-! K01x: names read by hand. -/
namespace VL
open PySem L2 PyProof.Rows VE
section
variable {Γ : Gam} {κ κ1 : List Addr} {H H1 H6 : Hp} {g g1 : G} {P : Addr → Prop}
/-- the slots and what they hold, from the left -/
inductive EnvL (Γ : Gam) (κ : List Addr) (H : Hp) (P : Addr → Prop) : List (Option V) → VL.Env → Prop
  | nil : EnvL Γ κ H P [] []
  | no {x σ env} : EnvL Γ κ H P σ env → EnvL Γ κ H P (x :: σ) (none :: env)
  | yes {v d S σ env} : Rep Γ κ H 0 v d [] S → (∀ a ∈ S, P a) → EnvL Γ κ H P σ env → EnvL Γ κ H P (some v :: σ) (some d :: env)
theorem EnvL.len : ∀ {σ : List (Option V)} {env : VL.Env}, EnvL Γ κ H P σ env → σ.length = env.length
  | _, _, .nil => rfl
  | _, _, .no h => by rw [List.length_cons, List.length_cons, EnvL.len h]
  | _, _, .yes _ _ h => by rw [List.length_cons, List.length_cons, EnvL.len h]
theorem EnvL.get : ∀ {σ : List (Option V)} {env : VL.Env}, EnvL Γ κ H P σ env → ∀ (i : Nat) (d : D), env[i]? = some (some d) → ∃ v S, σ[i]? = some (some v) ∧ Rep Γ κ H 0 v d [] S ∧ ∀ a ∈ S, P a
  | _, _, .nil, i, d, h => by simp at h
  | _, _, .no q, 0, d, h => by simp at h
  | _, _, .no q, i + 1, d, h => by simpa using EnvL.get q i d (by simpa using h)
  | _, _, .yes r p q, 0, d, h => by
    simp at h; subst h
    exact ⟨_, _, rfl, r, p⟩
  | _, _, .yes r p q, i + 1, d, h => by simpa using EnvL.get q i d (by simpa using h)
theorem EnvL.env {σ : List (Option V)} {env : VL.Env} (c : Cl κ H) (h : EnvL Γ κ H P σ env) : ∃ SI, EnvR Γ κ H σ env SI ∧ ∀ i a, a ∈ SI i → P a := by
  have key : ∀ i : Nat, ∃ L : List Addr, (∀ d, env[i]? = some (some d) → ∃ v, σ[i]? = some (some v) ∧ Rep Γ κ H 0 v d [] L) ∧ ((∀ d, env[i]? ≠ some (some d)) → L = []) ∧ ∀ a ∈ L, P a := fun i => by
    by_cases z : ∃ d, env[i]? = some (some d)
    · obtain ⟨d, z⟩ := z
      obtain ⟨v, S, a, b, p⟩ := h.get i d z
      exact ⟨S, fun d' e => by rw [z] at e; cases e; exact ⟨v, a, b⟩, fun e => absurd z (e d), p⟩
    · exact ⟨[], fun d e => absurd ⟨d, e⟩ z, fun _ => rfl, fun _ q => nomatch q⟩
  refine ⟨fun i => Classical.choose (key i), ⟨h.len, fun i d e => ?_, fun i a ha => ?_⟩, fun i a ha => (Classical.choose_spec (key i)).2.2 a ha⟩
  · obtain ⟨v, e1, r⟩ := (Classical.choose_spec (key i)).1 d e
    exact ⟨v, _, e1, r, fun a ha => ha⟩
  · by_cases z : ∃ d, env[i]? = some (some d)
    · obtain ⟨d, z⟩ := z
      obtain ⟨v, e1, r⟩ := (Classical.choose_spec (key i)).1 d z
      exact ((r.dom c).2 a ha).1
    · rw [(Classical.choose_spec (key i)).2.1 fun d e => z ⟨d, e⟩] at ha
      cases ha
/-- an expression, its names from the left -/
theorem useX {T : Tab} {m : Ex} {σ : List (Option V)} {env : VL.Env} {d : D} {Q : VK} (c : CellR Γ κ H g) (r : EnvL Γ κ H P σ env) (e : ev T.Φ m env g = some (d, g1))
    (k : ∀ v H' κ' O S, Ext κ H H' → KExt κ κ' H → CellR Γ κ' H' g1 → (∀ a ∈ O, H a = none) → (∀ a ∈ S, H a = none ∨ P a) → Rep Γ κ' H' (own T.rl m) v d O S → Q v H') : tX Γ T m σ H Q := by
  obtain ⟨SI, r', hp⟩ := r.env c.cl
  exact ⟨κ, g, env, SI, c, r', d, g1, e, fun v H' κ' O S st rp => k v H' κ' O S st.ext st.kx st.cr st.fr (fun a ha => (st.al a ha).imp id fun ⟨i, _, q⟩ => hp i a q) rp⟩
theorem useXs {T : Tab} {ms : List Ex} {σ : List (Option V)} {env : VL.Env} {ds : List D} {Q : List V → Hp → Prop} (c : CellR Γ κ H g) (r : EnvL Γ κ H P σ env) (e : evs T.Φ ms env g = some (ds, g1))
    (k : ∀ vs H' κ' O S, Ext κ H H' → KExt κ κ' H → CellR Γ κ' H' g1 → (∀ a ∈ O, H a = none) → (∀ a ∈ S, H a = none ∨ P a) → RepL Γ κ' H' (owns T.rl ms) vs ds O S → Q vs H') : tXs Γ T ms σ H Q := by
  obtain ⟨SI, r', hp⟩ := r.env c.cl
  exact ⟨κ, g, env, SI, c, r', ds, g1, e, fun v H' κ' O S st rp => k v H' κ' O S st.ext st.kx st.cr st.fr (fun a ha => (st.al a ha).imp id fun ⟨i, _, q⟩ => hp i a q) rp⟩
theorem useT {T : Tab} {m : Ex} {σ : List (Option V)} {env : VL.Env} {d : D} {b : Bool} {Q : Bool → Hp → Prop} (c : CellR Γ κ H g) (r : EnvL Γ κ H P σ env) (e : ev T.Φ m env g = some (d, g1)) (hb : truth d = some b)
    (k : ∀ H' κ', Ext κ H H' → KExt κ κ' H → CellR Γ κ' H' g1 → Q b H') : tT Γ T m σ H Q := by
  obtain ⟨SI, r', hp⟩ := r.env c.cl
  exact ⟨κ, g, env, SI, c, r', d, g1, b, e, hb, fun H' κ' st => k H' κ' st.ext st.kx st.cr⟩
/-- things of H6 that stand -/
structure Cur (Γ : Gam) (P : Addr → Prop) (H6 : Hp) (κ : List Addr) (H : Hp) (g : G) : Prop where
  cr : CellR Γ κ H g
  kp : ∀ a, P a → ∃ o, H6 a = some o ∧ H a = some o ∧ a ∉ κ
theorem Cur.ext (c : Cur Γ P H6 κ H g) (x : Ext κ H H1) (k : KExt κ κ1 H) (r : CellR Γ κ1 H1 g1) : Cur Γ P H6 κ1 H1 g1 :=
  ⟨r, fun a ha => let ⟨o, e0, e1, n⟩ := c.kp a ha; ⟨o, e0, x a o e1 n, k.notin e1 n⟩⟩
theorem Cur.write (c : Cur Γ P H6 κ H g) {m : Addr} {o u : HO} (hm : H m = some u) (hi : imm u = false) (hn : m ∉ κ) (hP : ¬ P m) : Cur Γ P H6 κ (L2.upd H m o) g :=
  ⟨c.cr.away (fun u' e => by rw [hm] at e; cases e; exact hi) hn, fun a ha => by
    obtain ⟨o', e0, e1, n⟩ := c.kp a ha
    exact ⟨o', e0, by rw [upd_ne (fun z => by rw [z] at ha; exact hP ha)]; exact e1, n⟩⟩
theorem Cur.less (c : Cur Γ P H6 κ H g) {P' : Addr → Prop} (h : ∀ a, P' a → P a) : Cur Γ P' H6 κ H g := ⟨c.cr, fun a ha => c.kp a (h a ha)⟩
/-- errors that hold the very value: it may be read as a tree -/
theorem unraw {v : V} {d : D} {Sd : List Addr} (rd : Rep Γ κ1 H1 0 v d [] Sd) : ∀ {cs : List Str} {vs : List V} {O S : List Addr}, RepL Γ κ H 0 vs (cs.map fun c => .exn c [.raw v]) O S → (∀ a ∈ S, ∀ o, H a = some o → H1 a = some o) →
    ∃ S', RepL Γ κ1 H1 0 vs (cs.map fun c => .exn c [d]) [] S'
  | [], _, _, _, h, _ => by cases h; exact ⟨[], .nil⟩
  | c :: cs, _, _, _, h, hS => by
    rw [List.map_cons] at h
    cases h with
    | cons h1 h2 =>
      cases h1 with
      | exn1 a1 a2 a3 a4 =>
        cases a4
        obtain ⟨S', q⟩ := unraw rd h2 fun a ha => hS a (List.mem_append_right _ ha)
        exact ⟨_, .cons (O1 := []) (.exn1 (hS _ (by simp) _ a1) (hS _ (by simp) _ a2) a3 rd) q⟩
theorem unraw_list {v p : V} {d : D} {Sd S : List Addr} (rd : Rep Γ κ1 H1 0 v d [] Sd) (h : Rep Γ κ H 0 p (errsD (.raw v)) [] S) (hS : ∀ a ∈ S, ∀ o, H a = some o → H1 a = some o ∧ a ∉ κ1) : ∃ S', Rep Γ κ1 H1 0 p (errsD d) [] S' := by
  unfold errsD at h
  cases h with
  | lst0 h1 h2 h3 =>
    obtain ⟨S', q⟩ := unraw rd h3 fun a ha o e => (hS a (List.mem_cons_of_mem _ ha) o e).1
    exact ⟨_, .lst0 (hS _ (by simp) _ h1).1 (hS _ (by simp) _ h1).2 q⟩
end
end VL
/-! K01y: the things and what repr tells of them. -/
namespace VL
open PySem
theorem reprOk_of {p : PyData} (h1 : p.leavesShort 13 = true) (h2 : p.showable = true) (h3 : p.depth ≤ 60) (h4 : p.weight ≤ 1000) : reprOk p = true := by
  have h := PyData.shown_le 13 (by omega) p h1
  unfold reprOk
  rw [h2, decide_eq_true h3, decide_eq_true (by omega : p.shown.length ≤ 1000000)]; rfl
theorem reprD_of {d : D} {p : PyData} (h : d.pyd = some p) (h1 : p.leavesShort 13 = true) (h2 : p.showable = true) (h3 : p.depth ≤ 60) (h4 : p.weight ≤ 1000) : ∃ x, reprD d = some x := by
  refine ⟨p.shown, ?_⟩
  unfold reprD
  rw [h, Option.bind_some, reprOk_of h1 h2 h3 h4]; rfl
/-- a part of a thing that may be shown -/
structure Sh (p : PyData) (n w : Nat) : Prop where
  ls : p.leavesShort 13 = true
  sh : p.showable = true
  dp : p.depth ≤ n
  wt : p.weight ≤ w
theorem sh_non : Sh .none 0 0 := ⟨rfl, rfl, Nat.le_refl _, Nat.le_refl _⟩
theorem sh_bl (b : Bool) : Sh (.bool b) 0 0 := ⟨rfl, rfl, Nat.le_refl _, Nat.le_refl _⟩
theorem sh_int {z : Int} (h : z.natAbs < 10 ^ 12) : Sh (.int z) 0 41 := by
  have hl : z.natAbs.log2 ≤ 40 := by
    by_cases h0 : z.natAbs = 0
    · rw [h0]; decide
    · have : z.natAbs.log2 < 41 := (Nat.log2_lt h0).mpr (by omega)
      omega
  refine ⟨by simp only [PyData.leavesShort]; exact decide_eq_true (PyData.shown_int_le h), by simp only [PyData.showable]; exact decide_eq_true (by omega), by simp only [PyData.depth]; omega, ?_⟩
  simp only [PyData.weight]
  split <;> omega
theorem sh_str {x : Str} (hl : x.length ≤ 8) (hc : ∀ k ∈ x.cps.toList, k < 1000) : Sh (.str x) 0 8 := by
  refine ⟨?_, by simp only [PyData.showable], by simp only [PyData.depth]; omega, by simp only [PyData.weight]; exact hl⟩
  simp only [PyData.leavesShort]
  rw [List.all_eq_true]
  intro c h
  exact decide_eq_true (Nat.lt_trans (hc c h) (by decide))
theorem Wd.sh {x : Str} (h : Wd x) : Sh (.str x) 0 8 := sh_str h.len h.cod
theorem sh_lst {xs : List PyData} {n w : Nat} (h1 : PyData.leavesShortAll 13 xs = true) (h2 : PyData.showableAll xs = true) (h3 : PyData.depthAll xs ≤ n) (h4 : PyData.weightAll xs ≤ w) : Sh (.list xs) (n + 1) w ∧ Sh (.tuple xs) (n + 1) w :=
  ⟨⟨by simp only [PyData.leavesShort]; exact h1, by simp only [PyData.showable]; exact h2, by simp only [PyData.depth]; omega, by simp only [PyData.weight]; exact h4⟩, ⟨by simp only [PyData.leavesShort]; exact h1, by simp only [PyData.showable]; exact h2, by simp only [PyData.depth]; omega, by simp only [PyData.weight]; exact h4⟩⟩
/-- items of a list that may be shown -/
structure Shs (ps : List PyData) (n w : Nat) : Prop where
  ls : PyData.leavesShortAll 13 ps = true
  sh : PyData.showableAll ps = true
  dp : PyData.depthAll ps ≤ n
  wt : PyData.weightAll ps ≤ w
theorem shs_nil {n w : Nat} : Shs [] n w := ⟨rfl, rfl, by simp only [PyData.depthAll]; omega, by simp only [PyData.weightAll]; omega⟩
theorem shs_cons {p : PyData} {ps : List PyData} {n n' w w' w2 : Nat} (h : Sh p n w) (t : Shs ps n' w') (hn : n ≤ n') (hw : w + 1 + w' ≤ w2) : Shs (p :: ps) n' w2 :=
  ⟨by simp only [PyData.leavesShortAll, h.ls, t.ls]; rfl, by simp only [PyData.showableAll, h.sh, t.sh]; rfl, by simp only [PyData.depthAll]; have := h.dp; have := t.dp; omega, by simp only [PyData.weightAll]; have := h.wt; have := t.wt; omega⟩
theorem Shs.lst {ps : List PyData} {n w : Nat} (h : Shs ps n w) : Sh (.list ps) (n + 1) w := (sh_lst h.ls h.sh h.dp h.wt).1
theorem Shs.tup {ps : List PyData} {n w : Nat} (h : Shs ps n w) : Sh (.tuple ps) (n + 1) w := (sh_lst h.ls h.sh h.dp h.wt).2
theorem sh_dic1 {x : Str} {p : PyData} {n w : Nat} (hx : Sh (.str x) 0 8) (h : Sh p n w) : Sh (.dict [(.str x, p)]) (n + 1) (w + 10) := by
  refine ⟨?_, ?_, ?_, ?_⟩
  · have := hx.ls; have := h.ls
    simp only [PyData.leavesShort, PyData.leavesShortKv] at *
    simp [*]
  · have := hx.sh; have := h.sh
    simp only [PyData.showable, PyData.showableKv] at *
    simp [*]
  · have := hx.dp; have := h.dp
    simp only [PyData.depth, PyData.depthKv] at *
    omega
  · have := hx.wt; have := h.wt
    simp only [PyData.weight, PyData.weightKv] at *
    omega
theorem sh_dic2 {x y : Str} {p q : PyData} {n w w' : Nat} (hx : Sh (.str x) 0 8) (h : Sh p n w) (hy : Sh (.str y) 0 8) (h' : Sh q n w') : Sh (.dict [(.str x, p), (.str y, q)]) (n + 1) (w + w' + 20) := by
  refine ⟨?_, ?_, ?_, ?_⟩
  · have := hx.ls; have := h.ls; have := hy.ls; have := h'.ls
    simp only [PyData.leavesShort, PyData.leavesShortKv] at *
    simp [*]
  · have := hx.sh; have := h.sh; have := hy.sh; have := h'.sh
    simp only [PyData.showable, PyData.showableKv] at *
    simp [*]
  · have := hx.dp; have := h.dp; have := hy.dp; have := h'.dp
    simp only [PyData.depth, PyData.depthKv] at *
    omega
  · have := hx.wt; have := h.wt; have := hy.wt; have := h'.wt
    simp only [PyData.weight, PyData.weightKv] at *
    omega
theorem Sh.rep {d : D} {p : PyData} {n w : Nat} (h : Sh p n w) (hn : n ≤ 60) (hw : w ≤ 1000) (e : d.pyd = some p) : ∃ x, reprD d = some x := reprD_of e h.ls h.sh (Nat.le_trans h.dp hn) (Nat.le_trans h.wt hw)
/-! ### the things -/
def plainD (w : Str) (z : Int) : List D := [.non, .bl true, .bl false, .int 0, .str w, .int z, .tup [.str "says", .str w, .int 1, .int 2], .tup [.str w, .lst [.str w]], .dic false [(.text w, .lst [.str w])]]
def moreD (w : Str) : List D := [.lst [.str w], .lst [.lst [.str w], .dic false [(.text "odd", .str w)]]]
theorem wd_lit (x : Str) (h : (decide (x.length ≤ 8) && x.cps.toList.all fun k => decide (k < 1000)) = true) : Sh (.str x) 0 8 := by
  obtain ⟨h1, h2⟩ := Bool.and_eq_true_iff.mp h
  exact sh_str (of_decide_eq_true h1) fun k hk => of_decide_eq_true (List.all_eq_true.mp h2 k hk)
theorem things_repr {w : Str} {z : Int} (hw : Wd w) (hz : z.natAbs < 10 ^ 12) : ∀ d ∈ plainD w z ++ moreD w, ∃ x, reprD d = some x := by
  intro d hd
  have h1 := hw.sh
  have one : Sh (.list [.str w]) 1 9 := (shs_cons h1 shs_nil (Nat.le_refl 0) (by omega : 8 + 1 + 0 ≤ 9)).lst
  simp only [plainD, moreD, List.cons_append, List.nil_append, List.mem_cons, List.not_mem_nil, or_false] at hd
  rcases hd with rfl | rfl | rfl | rfl | rfl | rfl | rfl | rfl | rfl | rfl | rfl
  · exact sh_non.rep (by omega) (by omega) rfl
  · exact (sh_bl _).rep (by omega) (by omega) rfl
  · exact (sh_bl _).rep (by omega) (by omega) rfl
  · exact (sh_int (z := 0) (by decide)).rep (by omega) (by omega) rfl
  · exact h1.rep (by omega) (by omega) rfl
  · exact (sh_int hz).rep (by omega) (by omega) rfl
  · exact (shs_cons (w2 := 200) (wd_lit "says" (by decide +kernel)) (shs_cons (w2 := 150) h1 (shs_cons (w2 := 100) (sh_int (z := 1) (by decide)) (shs_cons (w2 := 50) (sh_int (z := 2) (by decide)) (shs_nil (w := 0)) (Nat.le_refl 0) (by omega)) (Nat.le_refl 0) (by omega)) (Nat.le_refl 0) (by omega)) (Nat.le_refl 0) (by omega)).tup.rep (by omega) (by omega) rfl
  · exact (shs_cons (w2 := 200) (n' := 1) h1 (shs_cons (w2 := 100) one (shs_nil (w := 0)) (Nat.le_refl 1) (by omega)) (by omega) (by omega)).tup.rep (by omega) (by omega) rfl
  · exact (sh_dic1 h1 one).rep (by omega) (by omega) rfl
  · exact one.rep (by omega) (by omega) rfl
  · exact (shs_cons (w2 := 200) (n' := 1) one (shs_cons (w2 := 100) (sh_dic1 (wd_lit "odd" (by decide +kernel)) h1) (shs_nil (w := 0)) (Nat.le_refl 1) (by omega)) (by omega) (by omega)).lst.rep (by omega) (by omega) rfl
end VL
/-! K01z: the law's text. -/
namespace VL
open PySem L2 PyProof.Rows VE
def nLaw : List Str := ["_law_script", "_law_purse_here", "_law_word_here", "_law_plain", "_law_thing", "_law_noted", "_law_some", "_law_called_here", "_law_later", "_law_rest", "_law_error"]
def sLaw : Sc := { N := nLaw, sc := defScope (topK 45), fns := [("_law_bare", 0), ("_law_called", 1), ("_law_code", 1), ("_law_first", 1), ("_law_is_error", 1), ("_law_one_of", 2), ("_law_purses", 2), ("_law_right", 2), ("_law_word", 1)], bls := ["all", "dict", "isinstance", "list", "repr", "tuple"], atts := [], ers := [], exbs := ["NothingToRedo", "NothingToUndo", "PostError"], isxs := [], ens := ensK }
def mP : Ex := .cal "_law_purses" [.var 0, .int 1]
def mW : Ex := .cal "_law_word" [.var 1]
def mPl : Ex := .lst [.non, .bl true, .bl false, .int 0, .var 2, .neg (.sub (.var 1) (.int 1)), .tup [.str "says", .var 2, .int 1, .int 2], .tup [.var 2, .lst [.var 2]], .dic false [.var 2, .lst [.var 2]]]
def mT : Ex := .cal "_law_one_of" [.var 1, .bin .add (.var 3) (.lst [.lst [.var 2], .lst [.lst [.var 2], .dic false [.str "odd", .var 2]]])]
def mN : Ex := .bui .repr [.var 4]
def ms5 : List Ex := [.cal "_law_first" [.var 4], .cal "_law_called" [.var 4], .cal "_law_first" [.tup [.str "later", .var 2]]]
def m6 : Ex := .bop false [.not (.cal "_law_right" [.cal "_law_bare" [], .str "None"]), .not (.cal "_law_right" [.var 8, .bui .repr [.tup [.str "later", .var 2]]])]
def m7 : Ex := .bop false [.not (.cal "_law_right" [.var 6, .var 5]), .not (.cal "_law_right" [.var 7, .var 5])]
def c8 : Ex := .isi (.var 4) ["list"]
def c9 : Ex := .isi (.var 4) ["dict"]
def c10 : Ex := .bop true [.isi (.var 4) ["tuple"], .isi (.sub (.var 4) (.int 1)) ["list"]]
def m11 : Ex := .bop false [.not (.cal "_law_right" [.var 6, .bui .repr [.var 4]]), .not (.cal "_law_right" [.var 7, .bui .repr [.var 4]])]
def mR : Ex := .lst [.exb "NothingToUndo", .exb "NothingToRedo"]
def m12 : Ex := .cmp .ne (.lc (.nm 10) .val [.var 9] [] (.cal "_law_code" [.var 10])) (.lst [.lst [.int 28], .lst [.int 29]])
def mPE : Ex := .exb "PostError"
def mEnd : Ex := .orv true [.bui .all [.lc (.nm 10) .val [.var 9] [] (.cal "_law_is_error" [.var 10])], .cmp .eq (.cal "_law_code" [.sub (.var 9) (.int 2)]) (.lst [])]
section
variable (Γ : Gam) (T : Tab)
def retF : TS := tRet (tC (.bl false))
def lst1 : TS := tDrop (tBM Γ.K "list" rAppend (tVar 4) (tCons (tC (.str "later")) tNil))
def dic1 : TS := tDrop (tBM Γ.K "list" rAppend (tDGet (tVar 4) (tVar 2)) (tCons (tC (.str "later")) tNil))
def dic2 : TS := sDPut (tVar 4) (tC (.str "LATER")) (tC (.int 1))
def tup1 : TS := tDrop (tBM Γ.K "list" rAppend (tOp (rIx Γ.K) (tVar 4) (tC (.int 1))) (tCons (tC (.str "later")) tNil))
def t11 : TS := tIfS (tT Γ T m11) retF tNext
def t10 : TS := tSeq (tIfS (tT Γ T c10) (tup1 Γ) tNext) (t11 Γ T)
def t9 : TS := tSeq (tIfS (tT Γ T c9) (tSeq (dic1 Γ) dic2) tNext) (t10 Γ T)
def t8 : TS := tSeq (tIfS (tT Γ T c8) (lst1 Γ) tNext) (t9 Γ T)
def t7 : TS := tSeq (tIfS (tT Γ T m7) retF tNext) (t8 Γ T)
def t6 : TS := tSeq (tIfS (tT Γ T m6) retF tNext) (t7 Γ T)
def t5 : TS := tSeq (tPar3 6 7 8 (tXs Γ T ms5)) (t6 Γ T)
def t4 : TS := tSeq (tAsg (tX Γ T mN) (gName 5)) (t5 Γ T)
def t3 : TS := tSeq (tAsg (tX Γ T mT) (gName 4)) (t4 Γ T)
def t2 : TS := tSeq (tAsg (tX Γ T mPl) (gName 3)) (t3 Γ T)
def t1 : TS := tSeq (tAsg (tX Γ T mW) (gName 2)) (t2 Γ T)
def tE : TS := tSeq (tAsg (tX Γ T mR) (gName 9)) (tSeq (tIfS (tT Γ T m12) retF tNext) (tSeq (tDrop (tBM Γ.K "list" rAppend (tVar 9) (tCons (tX Γ T mPE) tNil))) (tRet (tX Γ T mEnd))))
def tLaw : TS := tSeq (tFor (iList Γ.K (tX Γ T mP)) (gName 1) (t1 Γ T)) (tE Γ T)
end
section
variable {X : Cx} {T : Tab}
theorem law_ss (C : CokS X T sLaw) : PSs X (defBody (topK 45)) (tLaw (gam X) T) := by
  have E : ∀ (m : Ex) (e : Expr), chk false sLaw m e = true → PE X e (tX (gam X) T m) := fun m e h => (snd m false sLaw e X C.toCok h).out
  have Es : ∀ (ms : List Ex) (es : List Expr), chkL false sLaw ms es = true → PA X es (tXs (gam X) T ms) := fun ms es h => (sndL ms false sLaw es X C.toCok h).pa
  have Te : ∀ (m : Ex) (e : Expr), (chk true sLaw m e && grd true m e) = true → PT X e (tT (gam X) T m) := fun m e h => (snd m true sLaw e X C.toCok (Bool.and_eq_true_iff.mp h).1).test (Bool.and_eq_true_iff.mp h).2
  have hN : ∀ {i : Nat} {x : Str}, nLaw[i]? = some x → X.N[i]? = some x := fun h => by rw [C.N]; exact h
  have hL : ∀ {x : Str}, (defScope (topK 45)).names.lookup x = some .local → X.env.scope.names.lookup x = some .local := fun h => by rw [C.sc]; exact h
  have hl : ∀ {x : Str}, (defScope (topK 45)).names.lookup x = some .local → L2.Loc X.env.scope x := fun h => .inl (hL h)
  have hf : ∀ x, X.fn x = true ∨ X.env.scope.names.lookup x = some .local := fun x => .inl (C.fn x)
  have V : ∀ (i : Nat) {x : Str} {p : Pos}, nLaw[i]? = some x → (defScope (topK 45)).names.lookup x = some .local → (x == ("__debug__" : Str)) = false → (x == ("__classdict__" : Str)) = false → PE X (.Name x p) (tVar i) := fun i x p h1 h2 h3 h4 => pe_var (hN h1) (.inl (hL h2)) h3 h4
  have hu : X.A.units + 1 < cLine := by have := C.hu; omega
  refine pss_cons (ps_for C.hp C.calm (pi_list (E mP _ (by kernel_rfl))) (pg_name C.nd (hN (i := 1) (by rfl)) (hl (by kernel_rfl)) (hf _)) ?_ (fun _ => rfl)) ?_
  · refine pss_cons (ps_set C.nd (hN (i := 2) (by rfl)) (hl (by kernel_rfl)) (E mW _ (by kernel_rfl)) (by rfl) (hf _)) ?_
    refine pss_cons (ps_set C.nd (hN (i := 3) (by rfl)) (hl (by kernel_rfl)) (E mPl _ (by kernel_rfl)) (by rfl) (hf _)) ?_
    refine pss_cons (ps_set C.nd (hN (i := 4) (by rfl)) (hl (by kernel_rfl)) (E mT _ (by kernel_rfl)) (by rfl) (hf _)) ?_
    refine pss_cons (ps_set C.nd (hN (i := 5) (by rfl)) (hl (by kernel_rfl)) (E mN _ (by kernel_rfl)) (by rfl) (hf _)) ?_
    refine pss_cons (ps_par3 C.calm C.nd (hN (i := 6) (by rfl)) (hN (i := 7) (by rfl)) (hN (i := 8) (by rfl)) (by decide) (by decide) (by decide) (hL (by kernel_rfl)) (hL (by kernel_rfl)) (hL (by kernel_rfl)) (Es ms5 _ (by kernel_rfl))
      (sw_par3 C.kind (by kernel_rfl) (hL (by kernel_rfl)) (hL (by kernel_rfl)) (hL (by kernel_rfl)) (by kernel_rfl) (by kernel_rfl) (by kernel_rfl) (by kernel_rfl) (by kernel_rfl)) (by rfl)) ?_
    refine pss_cons (ps_if (Te m6 _ (by kernel_rfl)) (pss_one (ps_ret pe_bl)) pss_nil) ?_
    refine pss_cons (ps_if (Te m7 _ (by kernel_rfl)) (pss_one (ps_ret pe_bl)) pss_nil) ?_
    refine pss_cons (ps_if (Te c8 _ (by kernel_rfl)) (pss_one (ps_expr (pe_bm PySem.F.plainAttrs_list PySem.F.slot_list_append PySem.F.type_list_append mt_append (V 4 (by rfl) (by kernel_rfl) (by decide) (by decide)) (pa_cons pe_str pa_nil)))) pss_nil) ?_
    refine pss_cons (ps_if (Te c9 _ (by kernel_rfl)) (pss_cons (ps_expr (pe_bm PySem.F.plainAttrs_list PySem.F.slot_list_append PySem.F.type_list_append mt_append (pe_dget hu (V 4 (by rfl) (by kernel_rfl) (by decide) (by decide)) (V 2 (by rfl) (by kernel_rfl) (by decide) (by decide)) (fun _ _ => rfl)) (pa_cons pe_str pa_nil))) (pss_one (ps_dput hu (V 4 (by rfl) (by kernel_rfl) (by decide) (by decide)) pe_str pe_int (by rfl)))) pss_nil) ?_
    refine pss_cons (ps_if (Te c10 _ (by kernel_rfl)) (pss_one (ps_expr (pe_bm PySem.F.plainAttrs_list PySem.F.slot_list_append PySem.F.type_list_append mt_append (pe_ix ix_seq (V 4 (by rfl) (by kernel_rfl) (by decide) (by decide)) pe_int (fun _ _ => rfl)) (pa_cons pe_str pa_nil)))) pss_nil) ?_
    exact pss_one (ps_if (Te m11 _ (by kernel_rfl)) (pss_one (ps_ret pe_bl)) pss_nil)
  · refine pss_cons (ps_set C.nd (hN (i := 9) (by rfl)) (hl (by kernel_rfl)) (E mR _ (by kernel_rfl)) (by rfl) (hf _)) ?_
    refine pss_cons (ps_if (Te m12 _ (by kernel_rfl)) (pss_one (ps_ret pe_bl)) pss_nil) ?_
    refine pss_cons (ps_expr (pe_bm PySem.F.plainAttrs_list PySem.F.slot_list_append PySem.F.type_list_append mt_append (V 9 (by rfl) (by kernel_rfl) (by decide) (by decide)) (pa_cons (E mPE _ (by kernel_rfl)) pa_nil))) ?_
    exact pss_one (ps_ret (E mEnd _ (by kernel_rfl)))
end
end VL
/-! K01za: behind the loop. -/
namespace VL
open PySem L2 PyProof.Rows VE
def TK : Tab := ⟨P12, rlK⟩
theorem cell0 {Γ : Gam} {H : Hp} : CellR Γ [] H [] := ⟨rfl, List.nodup_nil, fun i a ds h => by simp at h⟩
theorem nil_of {Γ : Gam} {κ : List Addr} {H : Hp} (c : CellR Γ κ H []) : κ = [] := List.length_eq_zero_iff.mp c.len
def rest2 : D := .lst [.exn "NothingToUndo" [], .exn "NothingToRedo" []]
def rest3 : D := .lst [.exn "NothingToUndo" [], .exn "NothingToRedo" [], .exn "PostError" []]
def env9 (d : D) : VL.Env := [none, none, none, none, none, none, none, none, none, some d, none]
theorem v_mR (env : VL.Env) : ev P12 mR env [] = some (rest2, []) := by kernel_rfl
theorem v_m12 : ev P12 m12 (env9 rest2) [] = some (.bl false, []) := by kernel_rfl
theorem v_mPE (env : VL.Env) : ev P12 mPE env [] = some (.exn "PostError" [], []) := by kernel_rfl
theorem v_mEnd : ev P12 mEnd (env9 rest3) [] = some (.bl true, []) := by kernel_rfl
section
variable {Γ : Gam}
theorem exn0_inv {κ : List Addr} {H : Hp} {n : Nat} {v : V} {c : Str} {O S : List Addr} (r : Rep Γ κ H n v (.exn c []) O S) : ∃ a C, v = .ref a ∧ H a = some (exo a C none) ∧ Γ.mg c = some (.ref C) ∧ O = [] := by
  cases r with
  | exn0 h1 h2 => exact ⟨_, _, rfl, h1, h2, rfl⟩
theorem L_E {Q : VK} {D : Ends} (hD : D.rt = Q) (hQ : ∀ H', Q (.bl true) H') (σ : L2.St) (H : Hp) (hl : σ.length = 11) : tE Γ TK D σ H := by
  match σ, hl with
  | [a0, a1, a2, a3, a4, a5, a6, a7, a8, a9, a10], _ =>
    refine useX (P := fun _ => False) cell0 (env := [none, none, none, none, none, none, none, none, none, none, none]) (.no (.no (.no (.no (.no (.no (.no (.no (.no (.no (.no .nil))))))))))) (v_mR _) fun v H1 κ1 O1 S1 x1 k1 c1 f1 l1 r1 => ?_
    obtain rfl := nil_of c1
    cases r1 with
    | @lst n p vs ds O S h1 h2 h3 =>
    cases h3 with
    | cons e1 h3 =>
    cases h3 with
    | cons e2 h3 =>
    cases h3
    obtain ⟨b1, C1, rfl, g1, m1, rfl⟩ := exn0_inv e1
    obtain ⟨b2, C2, rfl, g2, m2, rfl⟩ := exn0_inv e2
    have R2 : ∀ {H' : Hp}, Ext [] H1 H' → Rep Γ [] H' 0 (.ref p) rest2 [] _ := fun {H'} x => .lst0 (x _ _ h1 (by simp)) (by simp) (.cons (O1 := []) (.exn0 (x _ _ g1 (by simp)) m1) (.cons (O1 := []) (.exn0 (x _ _ g2 (by simp)) m2) .nil))
    show tSeq (tIfS (tT Γ TK m12) retF tNext) _ D [a0, a1, a2, a3, a4, a5, a6, a7, a8, some (.ref p), a10] H1
    refine useT (P := fun _ => True) c1 (env := env9 rest2) (.no (.no (.no (.no (.no (.no (.no (.no (.no (.yes (R2 .refl) (fun _ _ => trivial) (.no .nil))))))))))) v_m12 rfl fun H2 κ2 x2 k2 c2 => ?_
    obtain rfl := nil_of c2
    rw [if_neg (by simp)]
    show tSeq (tDrop (tBM Γ.K "list" rAppend (tVar 9) (tCons (tX Γ TK mPE) tNil))) _ D [a0, a1, a2, a3, a4, a5, a6, a7, a8, some (.ref p), a10] H2
    refine ⟨_, rfl, .inl ⟨rfl, _, .inl (.inl (x2 _ _ h1 (by simp)))⟩, ?_⟩
    refine useX (P := fun _ => False) c2 (env := [none, none, none, none, none, none, none, none, none, none, none]) (.no (.no (.no (.no (.no (.no (.no (.no (.no (.no (.no .nil))))))))))) (v_mPE _) fun v3 H3 κ3 O3 S3 x3 k3 c3 f3 l3 r3 => ?_
    obtain rfl := nil_of c3
    obtain ⟨b3, C3, rfl, g3, m3, rfl⟩ := exn0_inv r3
    have hp : H3 p = some (.lst [.ref b1, .ref b2]) := x3 _ _ (x2 _ _ h1 (by simp)) (by simp)
    have gb1 := x3 _ _ (x2 _ _ g1 (by simp)) (by simp)
    have gb2 := x3 _ _ (x2 _ _ g2 (by simp)) (by simp)
    refine ⟨p, _, _, rfl, rfl, hp, by rw [sizeLine_eq]; show 2 < _; omega, ?_⟩
    have nb : ∀ {b C : Addr}, H3 b = some (exo b C none) → b ≠ p := fun h z => by rw [z, hp] at h; exact exo_lst _ (Option.some.inj h).symm
    have R3 : Rep Γ [] (upd H3 p (.lst ([.ref b1, .ref b2] ++ [.ref b3]))) 0 (.ref p) rest3 [] _ := .lst0 upd_same (by simp) (.cons (O1 := []) (.exn0 (by rw [upd_ne (nb gb1)]; exact gb1) m1) (.cons (O1 := []) (.exn0 (by rw [upd_ne (nb gb2)]; exact gb2) m2) (.cons (O1 := []) (.exn0 (by rw [upd_ne (nb g3)]; exact g3) m3) .nil)))
    show tX Γ TK mEnd [a0, a1, a2, a3, a4, a5, a6, a7, a8, some (.ref p), a10] _ D.rt
    refine useX (P := fun _ => True) cell0 (env := env9 rest3) (.no (.no (.no (.no (.no (.no (.no (.no (.no (.yes R3 (fun _ _ => trivial) (.no .nil))))))))))) v_mEnd fun v5 H5 κ5 O5 S5 x5 k5 c5 f5 l5 r5 => ?_
    cases r5
    rw [hD]
    exact hQ _
end
end VL
/-! K01zb: the thing is changed; what its errors tell then. -/
namespace VL
open PySem L2 PyProof.Rows VE
def envd (d : D) : VL.Env := [none, none, none, none, some d, none, none, none, none, none, none]
/-- behind the making of the errors: the slots, the list of purses at pl, the errors' nodes -/
structure Mid (Γ : Gam) where
  En : Ends
  pl : Addr
  xs : List V
  w : Str
  v4 : V
  x : Str
  q1 : V
  q2 : V
  s0 : Option V
  s1 : Option V
  s3 : Option V
  s8 : Option V
  s9 : Option V
  s10 : Option V
  κ6 : List Addr
  H6 : Hp
  S1 : List Addr
  S2 : List Addr
  Sd : List Addr
  hpl : H6 pl = some (.lst xs)
  r1 : Rep Γ κ6 H6 0 q1 (errsD (.raw v4)) [] S1
  r2 : Rep Γ κ6 H6 0 q2 (errsD (.raw v4)) [] S2
  nx : ∀ σ' H', σ'.length = 11 → H' pl = some (.lst xs) → En.nx σ' H'
  fr : ∀ a ∈ Sd, a ≠ pl ∧ a ∉ S1 ∧ a ∉ S2
section
variable {Γ : Gam} (M : Mid Γ)
def Mid.σ : L2.St := [M.s0, M.s1, some (.str M.w), M.s3, some M.v4, some (.str M.x), some M.q1, some M.q2, M.s8, M.s9, M.s10]
def Mid.P (a : Addr) : Prop := a = M.pl ∨ a ∈ M.S1 ∨ a ∈ M.S2
abbrev Mid.Cur (κ : List Addr) (H : Hp) (g : G) : Prop := VL.Cur Γ M.P M.H6 κ H g
variable {M} {κ : List Addr} {H : Hp} {g : G} {d : D} {S : List Addr}
theorem Mid.notP {a : Addr} (h : a ∈ M.Sd) : ¬ M.P a := fun z => by
  obtain ⟨h1, h2, h3⟩ := M.fr a h
  rcases z with z | z | z
  · exact h1 z
  · exact h2 z
  · exact h3 z
theorem Mid.pl_at (c : M.Cur κ H g) : H M.pl = some (.lst M.xs) := by
  obtain ⟨o, e0, e1, _⟩ := c.kp M.pl (.inl rfl)
  rw [M.hpl] at e0; cases e0; exact e1
theorem Mid.errs (c : M.Cur κ H g) (rd : Rep Γ κ H 0 M.v4 d [] S) : (∃ S', Rep Γ κ H 0 M.q1 (errsD d) [] S') ∧ ∃ S', Rep Γ κ H 0 M.q2 (errsD d) [] S' := by
  refine ⟨unraw_list rd M.r1 fun a ha o e => ?_, unraw_list rd M.r2 fun a ha o e => ?_⟩
  · obtain ⟨o', e0, e1, n⟩ := c.kp a (.inr (.inl ha))
    rw [e] at e0; cases e0; exact ⟨e1, n⟩
  · obtain ⟨o', e0, e1, n⟩ := c.kp a (.inr (.inr ha))
    rw [e] at e0; cases e0; exact ⟨e1, n⟩
theorem L_11 (c : M.Cur κ H g) (rd : Rep Γ κ H 0 M.v4 d [] S) {x' : Str} (hx : reprD d = some x') : t11 Γ TK M.En M.σ H := by
  obtain ⟨⟨S1, e1⟩, ⟨S2, e2⟩⟩ := M.errs c rd
  have hr : ∀ (env : VL.Env), env[4]? = some (some d) → ev P12 (.bui .repr [.var 4]) env g = some (.str x', g) := fun env he => e_bui (es_cons (e_var he) es_nil) (by show (reprD d).map D.str = _; rw [hx]; rfl)
  have he : ev P12 m11 [none, none, none, none, some d, none, some (errsD d), some (errsD d), none, none, none] g = some (.bl false, g) :=
    e_bop (eb_go (t := false) (e_not (e_cal (es_cons (e_var rfl) (es_cons (hr _ rfl) es_nil)) (v_right hx g)) rfl) rfl (eb_go (t := false) (e_not (e_cal (es_cons (e_var rfl) (es_cons (hr _ rfl) es_nil)) (v_right hx g)) rfl) rfl eb_nil))
  refine useT (P := fun _ => True) c.cr (.no (.no (.no (.no (.yes rd (fun _ _ => trivial) (.no (.yes e1 (fun _ _ => trivial) (.yes e2 (fun _ _ => trivial) (.no (.no (.no .nil))))))))))) he rfl fun H' κ' x k r => ?_
  rw [if_neg (by simp)]
  exact M.nx _ _ rfl (M.pl_at (c.ext x k r))
/-- an if that is passed over, one that is entered -/
theorem L_if0 {cd : Ex} {body rest : TS} (c : M.Cur κ H g) (rd : Rep Γ κ H 0 M.v4 d [] S) (e : ev P12 cd (envd d) g = some (.bl false, g)) (k : ∀ κ' H', M.Cur κ' H' g → Rep Γ κ' H' 0 M.v4 d [] S → rest M.En M.σ H') : tSeq (tIfS (tT Γ TK cd) body tNext) rest M.En M.σ H := by
  refine useT (P := fun _ => True) c.cr (.no (.no (.no (.no (.yes rd (fun _ _ => trivial) (.no (.no (.no (.no (.no (.no .nil))))))))))) e rfl fun H' κ' x kx r => ?_
  rw [if_neg (by simp)]
  exact k κ' H' (c.ext x kx r) (rd.mono x c.cr.cl kx)
theorem L_if1 {cd : Ex} {body rest : TS} (c : M.Cur κ H g) (rd : Rep Γ κ H 0 M.v4 d [] S) (e : ev P12 cd (envd d) g = some (.bl true, g)) (k : ∀ κ' H', M.Cur κ' H' g → Rep Γ κ' H' 0 M.v4 d [] S → body { M.En with nx := rest M.En } M.σ H') : tSeq (tIfS (tT Γ TK cd) body tNext) rest M.En M.σ H := by
  refine useT (P := fun _ => True) c.cr (.no (.no (.no (.no (.yes rd (fun _ _ => trivial) (.no (.no (.no (.no (.no (.no .nil))))))))))) e rfl fun H' κ' x kx r => ?_
  rw [if_pos rfl]
  exact k κ' H' (c.ext x kx r) (rd.mono x c.cr.cl kx)
theorem L_10 (c : M.Cur κ H g) (rd : Rep Γ κ H 0 M.v4 d [] S) {x' : Str} (hx : reprD d = some x') (h10 : ev P12 c10 (envd d) g = some (.bl false, g)) : t10 Γ TK M.En M.σ H :=
  L_if0 c rd h10 fun κ' H' c' rd' => L_11 c' rd' hx
theorem L_9 (c : M.Cur κ H g) (rd : Rep Γ κ H 0 M.v4 d [] S) {x' : Str} (hx : reprD d = some x') (h9 : ev P12 c9 (envd d) g = some (.bl false, g)) (h10 : ev P12 c10 (envd d) g = some (.bl false, g)) : t9 Γ TK M.En M.σ H :=
  L_if0 c rd h9 fun κ' H' c' rd' => L_10 c' rd' hx h10
theorem L_8 (c : M.Cur κ H g) (rd : Rep Γ κ H 0 M.v4 d [] S) {x' : Str} (hx : reprD d = some x') (h8 : ev P12 c8 (envd d) g = some (.bl false, g)) (h9 : ev P12 c9 (envd d) g = some (.bl false, g)) (h10 : ev P12 c10 (envd d) g = some (.bl false, g)) : t8 Γ TK M.En M.σ H :=
  L_if0 c rd h8 fun κ' H' c' rd' => L_9 c' rd' hx h9 h10
theorem hm_lst {a : Addr} {vs : List V} {H : Hp} (h : H a = some (.lst vs)) : ∀ u, H a = some u → imm u = false := fun u e => by rw [h] at e; cases e; rfl
theorem sh_up {p : PyData} {w : Nat} (h : Sh p 0 w) : Sh p 1 w := ⟨h.ls, h.sh, Nat.le_trans h.dp (by omega), h.wt⟩
/-- [w] -/
theorem L_lst1 (c : M.Cur κ H g) (rd : Rep Γ κ H 0 M.v4 (.lst [.str M.w]) [] M.Sd) (hw : Wd M.w) : t8 Γ TK M.En M.σ H := by
  refine L_if1 c rd (by kernel_rfl) fun κ' H' c' rd' => ?_
  generalize hv : M.v4 = v at rd'
  generalize hs : M.Sd = S at rd'
  cases rd' with
  | @lst0 a vs ds O S h1 h2 h3 =>
  obtain ⟨v1, rfl, e1⟩ := h3.one
  cases e1
  have hP : ¬ M.P a := M.notP (by rw [hs]; simp)
  refine ⟨_, (show M.σ[4]? = some (some (.ref a)) by rw [← hv]; rfl), .inl ⟨rfl, _, .inl (.inl h1)⟩, a, _, .str "later", rfl, rfl, h1, by rw [sizeLine_eq]; show 1 < _; omega, ?_⟩
  have c2 : M.Cur κ' (upd H' a (.lst ([.str M.w] ++ [.str "later"]))) g := c'.write h1 rfl h2 hP
  have r2 : Rep Γ κ' (upd H' a (.lst ([.str M.w] ++ [.str "later"]))) 0 M.v4 (.lst [.str M.w, .str "later"]) [] [a] := by
    rw [hv]
    exact .lst0 upd_same h2 (.cons (O1 := []) (S1 := []) .str (.cons (O1 := []) (S1 := []) .str .nil))
  obtain ⟨x', hx⟩ := (shs_cons (w2 := 100) hw.sh (shs_cons (w2 := 50) (wd_lit "later" (by decide +kernel)) (shs_nil (w := 0)) (Nat.le_refl 0) (by omega)) (Nat.le_refl 0) (by omega)).lst.rep (d := .lst [.str M.w, .str "later"]) (by omega) (by omega) rfl
  exact L_9 c2 r2 hx (by kernel_rfl) (by kernel_rfl)
/-- [[w], {"odd": w}] -/
theorem L_lst2 (c : M.Cur κ H g) (rd : Rep Γ κ H 0 M.v4 (.lst [.lst [.str M.w], .dic false [(.text "odd", .str M.w)]]) [] M.Sd) (hw : Wd M.w) : t8 Γ TK M.En M.σ H := by
  refine L_if1 c rd (by kernel_rfl) fun κ' H' c' rd' => ?_
  generalize hv : M.v4 = v at rd'
  generalize hs : M.Sd = S at rd'
  cases rd' with
  | @lst0 a vs ds O S h1 h2 h3 =>
  obtain ⟨y, z, Sy, Sz, rfl, e1, e2, _⟩ := h3.two
  have hP : ¬ M.P a := M.notP (by rw [hs]; simp)
  refine ⟨_, (show M.σ[4]? = some (some (.ref a)) by rw [← hv]; rfl), .inl ⟨rfl, _, .inl (.inl h1)⟩, a, _, .str "later", rfl, rfl, h1, by rw [sizeLine_eq]; show 2 < _; omega, ?_⟩
  have c2 : M.Cur κ' (upd H' a (.lst ([y, z] ++ [.str "later"]))) g := c'.write h1 rfl h2 hP
  have kp : Keeps κ' H' κ' (upd H' a (.lst ([y, z] ++ [.str "later"]))) (fun b => b ≠ a) := Keeps.upd (hm_lst h1)
  have ny : ∀ b ∈ Sy, b ≠ a := by
    cases e1 with
    | @lst0 b vs2 _ _ _ g1 g2 g3 =>
      obtain ⟨v1, rfl, q1⟩ := g3.one
      cases q1
      intro b' hb
      have : b' = b := by simpa using hb
      rw [this]
      intro z
      rw [z, h1] at g1
      cases g1
  have nz : ∀ b ∈ Sz, b ≠ a := by
    cases e2 with
    | @dic0 b kvs _ _ _ g1 g2 g3 =>
      obtain ⟨v1, hv1, q1⟩ := g3.one
      cases q1
      intro b' hb
      have : b' = b := by simpa using hb
      rw [this]
      intro z
      rw [z, h1] at g1
      cases g1
  have r2 : Rep Γ κ' (upd H' a (.lst ([y, z] ++ [.str "later"]))) 0 M.v4 (.lst [.lst [.str M.w], .dic false [(.text "odd", .str M.w)], .str "later"]) [] (a :: (Sy ++ (Sz ++ ([] ++ [])))) := by
    rw [hv]
    exact .lst0 upd_same h2 (.cons (O1 := []) (e1.away kp c'.cr.cl (fun _ z => nomatch z) ny) (.cons (O1 := []) (e2.away kp c'.cr.cl (fun _ z => nomatch z) nz) (.cons (O1 := []) (S1 := []) .str .nil)))
  have one : Sh (.list [.str M.w]) 1 9 := (shs_cons hw.sh shs_nil (Nat.le_refl 0) (by omega : 8 + 1 + 0 ≤ 9)).lst
  obtain ⟨x', hx⟩ := (shs_cons (w2 := 300) (n' := 1) one (shs_cons (w2 := 200) (sh_dic1 (wd_lit "odd" (by decide +kernel)) hw.sh) (shs_cons (w2 := 100) (wd_lit "later" (by decide +kernel)) (shs_nil (w := 0)) (by omega) (by omega)) (Nat.le_refl 1) (by omega)) (by omega) (by omega)).lst.rep (d := .lst [.lst [.str M.w], .dic false [(.text "odd", .str M.w)], .str "later"]) (by omega) (by omega) rfl
  exact L_9 c2 r2 hx (by kernel_rfl) (by kernel_rfl)
/-- (w, [w]) -/
theorem L_tup (c : M.Cur κ H g) (rd : Rep Γ κ H 0 M.v4 (.tup [.str M.w, .lst [.str M.w]]) [] M.Sd) (hw : Wd M.w) : t8 Γ TK M.En M.σ H := by
  refine L_if0 c rd (by kernel_rfl) fun κ1 H1 c1 rd1 => L_if0 c1 rd1 (by kernel_rfl) fun κ2 H2 c2 rd2 => L_if1 c2 rd2 (by kernel_rfl) fun κ' H' c' rd' => ?_
  generalize hv : M.v4 = v at rd'
  generalize hs : M.Sd = S at rd'
  cases rd' with
  | @tup _ t vs ds O S h1 h3 =>
  obtain ⟨y, z, Sy, Sz, rfl, e1, e2, hS⟩ := h3.two
  cases e1
  cases e2 with
  | @lst0 b vs2 _ _ _ g1 g2 g3 =>
  obtain ⟨v1, rfl, q1⟩ := g3.one
  cases q1
  have hP : ¬ M.P b := M.notP (by rw [hs]; exact hS b (.inr (by simp)))
  refine ⟨_, (show M.σ[4]? = some (some (.ref t)) by rw [← hv]; rfl), .inr (.inl ?_)⟩
  have c3 : M.Cur κ' (upd H' b (.lst ([.str M.w] ++ [.str "later"]))) g := c'.write g1 rfl g2 hP
  have kp : Keeps κ' H' κ' (upd H' b (.lst ([.str M.w] ++ [.str "later"]))) (fun x => x ≠ b) := Keeps.upd (hm_lst g1)
  have r2 : Rep Γ κ' (upd H' b (.lst ([.str M.w] ++ [.str "later"]))) 0 M.v4 (.tup [.str M.w, .lst [.str M.w, .str "later"]]) [] [b] := by
    rw [hv]
    exact .tup (kp.sqT c'.cr.cl h1) (.cons (O1 := []) (S1 := []) .str (.cons (O1 := []) (S2 := []) (.lst0 upd_same g2 (.cons (O1 := []) (S1 := []) .str (.cons (O1 := []) (S1 := []) .str .nil))) .nil))
  have two : Sh (.list [.str M.w, .str "later"]) 1 100 := (shs_cons (w2 := 100) hw.sh (shs_cons (w2 := 50) (wd_lit "later" (by decide +kernel)) (shs_nil (w := 0)) (Nat.le_refl 0) (by omega)) (Nat.le_refl 0) (by omega)).lst
  obtain ⟨x', hx⟩ := (shs_cons (w2 := 300) (n' := 1) hw.sh (shs_cons (w2 := 200) two (shs_nil (w := 0)) (Nat.le_refl 1) (by omega)) (by omega) (by omega)).tup.rep (d := .tup [.str M.w, .lst [.str M.w, .str "later"]]) (by omega) (by omega) rfl
  have fin : t11 Γ TK M.En M.σ (upd H' b (.lst ([.str M.w] ++ [.str "later"]))) := L_11 c3 r2 hx
  exact ⟨t, _, 1, .ref b, rfl, rfl, h1, rfl, .inl ⟨rfl, _, .inl (.inl g1)⟩, b, _, .str "later", rfl, rfl, g1, by rw [sizeLine_eq]; show 1 < _; omega, fin⟩
/-- {w: [w]} -/
theorem L_dic (c : M.Cur κ H g) (rd : Rep Γ κ H 0 M.v4 (.dic false [(.text M.w, .lst [.str M.w])]) [] M.Sd) (hw : Wd M.w) : t8 Γ TK M.En M.σ H := by
  refine L_if0 c rd (by kernel_rfl) fun κ1 H1 c1 rd1 => L_if1 c1 rd1 (by kernel_rfl) fun κ' H' c' rd' => ?_
  generalize hv : M.v4 = v at rd'
  generalize hs : M.Sd = S at rd'
  cases rd' with
  | @dic0 e kvs ds _ _ h1 h2 h3 =>
  obtain ⟨y, hy, e2⟩ := h3.one
  obtain ⟨kk, rfl⟩ : ∃ k, kvs = [(k, y)] := by
    match kvs, hy with
    | [(k, y')], hy => cases hy; exact ⟨k, rfl⟩
  have hk : kk = .inr M.w := by
    have := h2.1
    simp only [KE, List.map_cons, List.map_nil, lkey] at this
    exact (Option.some.inj (List.cons.inj this).1).symm
  subst hk
  cases e2 with
  | @lst0 b vs2 _ _ _ g1 g2 g3 =>
  obtain ⟨v1, rfl, q1⟩ := g3.one
  cases q1
  have hPb : ¬ M.P b := M.notP (by rw [hs]; simp)
  have hPe : ¬ M.P e := M.notP (by rw [hs]; simp)
  have hne : e ≠ b := fun z => by rw [z, g1] at h1; cases h1
  have hσ4 : M.σ[4]? = some (some (.ref e)) := by rw [← hv]; rfl
  have hne' : e ∉ κ' := c'.cr.cl.no h1 fun _ z => nomatch z
  have c3 : M.Cur κ' (upd H' b (.lst ([.str M.w] ++ [.str "later"]))) g := c'.write g1 rfl g2 hPb
  have he3 : upd H' b (.lst ([.str M.w] ++ [.str "later"])) e = some (.dK [(.inr M.w, .ref b)]) := by rw [upd_ne hne]; exact h1
  have c4 : M.Cur κ' (upd (upd H' b (.lst ([.str M.w] ++ [.str "later"]))) e (.dK (putK [(.inr M.w, .ref b)] (.inr "LATER") (.int 1)))) g := c3.write he3 rfl hne' hPe
  have hb4 : upd (upd H' b (.lst ([.str M.w] ++ [.str "later"]))) e (.dK (putK [(.inr M.w, .ref b)] (.inr "LATER") (.int 1))) b = some (.lst [.str M.w, .str "later"]) := by rw [upd_ne (Ne.symm hne), upd_same]; rfl
  have two : Sh (.list [.str M.w, .str "later"]) 1 100 := (shs_cons (w2 := 100) hw.sh (shs_cons (w2 := 50) (wd_lit "later" (by decide +kernel)) (shs_nil (w := 0)) (Nat.le_refl 0) (by omega)) (Nat.le_refl 0) (by omega)).lst
  have rl : Rep Γ κ' (upd (upd H' b (.lst ([.str M.w] ++ [.str "later"]))) e (.dK (putK [(.inr M.w, .ref b)] (.inr "LATER") (.int 1)))) 0 (.ref b) (.lst [.str M.w, .str "later"]) [] [b] := .lst0 hb4 g2 (.cons (O1 := []) (S1 := []) .str (.cons (O1 := []) (S1 := []) .str .nil))
  have fin : t10 Γ TK M.En M.σ (upd (upd H' b (.lst ([.str M.w] ++ [.str "later"]))) e (.dK (putK [(.inr M.w, .ref b)] (.inr "LATER") (.int 1)))) := by
    by_cases hl : M.w = "LATER"
    · have hp : putK [(.inr M.w, .ref b)] (.inr "LATER") (.int 1) = ([(.inr "LATER", .int 1)] : List (Key × V)) := by rw [hl]; unfold putK; simp
      have r4 : Rep Γ κ' (upd (upd H' b (.lst ([.str M.w] ++ [.str "later"]))) e (.dK (putK [(.inr M.w, .ref b)] (.inr "LATER") (.int 1)))) 0 M.v4 (.dic false [(.text "LATER", .int 1)]) [] [e] := by
        rw [hv, hp]
        exact .dic0 upd_same ⟨rfl, by simp⟩ (.cons (O1 := []) (S1 := []) .int .nil)
      obtain ⟨x', hx⟩ := (sh_dic1 (wd_lit "LATER" (by decide +kernel)) (sh_int (z := 1) (by decide))).rep (d := .dic false [(.text "LATER", .int 1)]) (by omega) (by omega) rfl
      exact L_10 c4 r4 hx (by kernel_rfl)
    · have hp : putK [(.inr M.w, .ref b)] (.inr "LATER") (.int 1) = ([(.inr M.w, .ref b), (.inr "LATER", .int 1)] : List (Key × V)) := by
        have : ¬ ((.inr M.w : Key) = .inr "LATER") := fun z => hl (Sum.inr.inj z)
        unfold putK
        simp [this]
      have r4 : Rep Γ κ' (upd (upd H' b (.lst ([.str M.w] ++ [.str "later"]))) e (.dK (putK [(.inr M.w, .ref b)] (.inr "LATER") (.int 1)))) 0 M.v4 (.dic false [(.text M.w, .lst [.str M.w, .str "later"]), (.text "LATER", .int 1)]) [] [e, b] := by
        rw [hv]
        refine .dic0 (kvs := [(.inr M.w, .ref b), (.inr "LATER", .int 1)]) (by rw [upd_same, hp]) ⟨rfl, ?_⟩ (.cons (O1 := []) (S2 := []) rl (.cons (O1 := []) (S1 := []) .int .nil))
        simp only [List.map_cons, List.map_nil, List.nodup_cons, List.mem_cons, List.not_mem_nil, or_false, not_false_eq_true, List.nodup_nil, and_true]
        exact fun z => hl (NestedKey.text.inj z)
      obtain ⟨x', hx⟩ := (sh_dic2 hw.sh two (wd_lit "LATER" (by decide +kernel)) (sh_up (sh_int (z := 1) (by decide)))).rep (d := .dic false [(.text M.w, .lst [.str M.w, .str "later"]), (.text "LATER", .int 1)]) (by omega) (by omega) rfl
      exact L_10 c4 r4 hx (by kernel_rfl)
  refine ⟨_, hσ4, _, (show M.σ[2]? = some (some (.str M.w)) from rfl), e, .ref b, rfl, ?_, .inl ⟨rfl, _, .inl (.inl g1)⟩, b, _, .str "later", rfl, rfl, g1, by rw [sizeLine_eq]; show 1 < _; omega, ?_⟩
  · have := DGet.k (k := .inr M.w) h1
    rw [show valV ([(.inr M.w, .ref b)] : List (Key × V)) (.inr M.w) = some (.ref b) by unfold valV; simp] at this
    exact this
  · exact ⟨_, hσ4, e, _, rfl, DPut.k (k := .inr "LATER") he3 (by rw [sizeLine_eq]; show 1 < _; omega), fin⟩
end
end VL
/-! K01zc: the loop's body, the law. -/
namespace VL
open PySem L2 PyProof.Rows VE
theorem p_word : P12 "_law_word" = P4 "_law_word" := by kernel_rfl
theorem p_one : P12 "_law_one_of" = P3 "_law_one_of" := by kernel_rfl
theorem p_purses : P12 "_law_purses" = P6 "_law_purses" := by kernel_rfl
theorem p_first : P12 "_law_first" = P7 "_law_first" := by kernel_rfl
theorem p_called : P12 "_law_called" = P8 "_law_called" := by kernel_rfl
theorem p_bare : P12 "_law_bare" = P9 "_law_bare" := by kernel_rfl
theorem e_dic1 {Φ : Phi} {a b : Ex} {env : VL.Env} {g g1 g2 : G} {w : Str} {x : D} (h1 : ev Φ a env g = some (.str w, g1)) (h2 : ev Φ b env g1 = some (x, g2)) : ev Φ (.dic false [a, b]) env g = some (.dic false [(.text w, x)], g2) := by
  rw [ev, es_cons h1 (es_cons h2 es_nil)]; rfl
def laterD (w : Str) : D := .tup [.str "later", .str w]
theorem later_repr {w : Str} (hw : Wd w) : ∃ y, reprD (laterD w) = some y :=
  (shs_cons (w2 := 200) (wd_lit "later" (by decide +kernel)) (shs_cons (w2 := 100) hw.sh (shs_nil (w := 0)) (Nat.le_refl 0) (by omega)) (Nat.le_refl 0) (by omega)).tup.rep (d := laterD w) (by omega) (by omega) rfl
section
variable {Γ : Gam} {M : Mid Γ} {κ : List Addr} {H : Hp} {g : G} {d : D}
theorem L_things {z : Int} (hd : d ∈ plainD M.w z ++ moreD M.w) (hw : Wd M.w) (hz : z.natAbs < 10 ^ 12) (c : M.Cur κ H g) (rd : Rep Γ κ H 0 M.v4 d [] M.Sd) : t8 Γ TK M.En M.σ H := by
  obtain ⟨x', hx⟩ := things_repr hw hz d hd
  simp only [plainD, moreD, List.cons_append, List.nil_append, List.mem_cons, List.not_mem_nil, or_false] at hd
  rcases hd with rfl | rfl | rfl | rfl | rfl | rfl | rfl | rfl | rfl | rfl | rfl
  · exact L_8 c rd hx (by kernel_rfl) (by kernel_rfl) (by kernel_rfl)
  · exact L_8 c rd hx (by kernel_rfl) (by kernel_rfl) (by kernel_rfl)
  · exact L_8 c rd hx (by kernel_rfl) (by kernel_rfl) (by kernel_rfl)
  · exact L_8 c rd hx (by kernel_rfl) (by kernel_rfl) (by kernel_rfl)
  · exact L_8 c rd hx (by kernel_rfl) (by kernel_rfl) (by kernel_rfl)
  · exact L_8 c rd hx (by kernel_rfl) (by kernel_rfl) (by kernel_rfl)
  · exact L_8 c rd hx (by kernel_rfl) (by kernel_rfl) (by kernel_rfl)
  · exact L_tup c rd hw
  · exact L_dic c rd hw
  · exact L_lst1 c rd hw
  · exact L_lst2 c rd hw
theorem L_7 {z : Int} (hd : d ∈ plainD M.w z ++ moreD M.w) (hw : Wd M.w) (hz : z.natAbs < 10 ^ 12) (c : M.Cur κ H g) (rd : Rep Γ κ H 0 M.v4 d [] M.Sd) (hx : reprD d = some M.x) : t7 Γ TK M.En M.σ H := by
  obtain ⟨⟨S1, e1⟩, ⟨S2, e2⟩⟩ := M.errs c rd
  have he : ev P12 m7 [none, none, none, none, none, some (.str M.x), some (errsD d), some (errsD d), none, none, none] g = some (.bl false, g) :=
    e_bop (eb_go (t := false) (e_not (e_cal (es_cons (e_var rfl) (es_cons (e_var rfl) es_nil)) (v_right hx g)) rfl) rfl (eb_go (t := false) (e_not (e_cal (es_cons (e_var rfl) (es_cons (e_var rfl) es_nil)) (v_right hx g)) rfl) rfl eb_nil))
  refine useT (P := fun _ => True) c.cr (.no (.no (.no (.no (.no (.yes .str (fun _ _ => trivial) (.yes e1 (fun _ _ => trivial) (.yes e2 (fun _ _ => trivial) (.no (.no (.no .nil))))))))))) he rfl fun H' κ' x k r => ?_
  rw [if_neg (by simp)]
  exact L_things hd hw hz (c.ext x k r) (rd.mono x c.cr.cl k)
theorem L_6 {z : Int} {q3 : V} {S3 : List Addr} (hd : d ∈ plainD M.w z ++ moreD M.w) (hw : Wd M.w) (hz : z.natAbs < 10 ^ 12) (c : M.Cur κ H g) (rd : Rep Γ κ H 0 M.v4 d [] M.Sd) (hx : reprD d = some M.x) (h8 : M.s8 = some q3) (r3 : Rep Γ κ H 0 q3 (errsD (laterD M.w)) [] S3) : t6 Γ TK M.En M.σ H := by
  obtain ⟨y, hy⟩ := later_repr hw
  have hn : reprD .non = some "None" := by kernel_rfl
  have hl : ∀ (env : VL.Env), env[2]? = some (some (.str M.w)) → ev P12 (.bui .repr [.tup [.str "later", .var 2]]) env g = some (.str y, g) := fun env he => e_bui (es_cons (e_tup (es_cons e_str (es_cons (e_var he) es_nil)) rfl) es_nil) (by show (reprD (laterD M.w)).map D.str = _; rw [hy]; rfl)
  have he : ev P12 m6 [none, none, some (.str M.w), none, none, none, none, none, some (errsD (laterD M.w)), none, none] g = some (.bl false, g) :=
    e_bop (eb_go (t := false) (e_not (e_cal (es_cons (e_cal es_nil (by rw [p_bare]; exact v_bare g)) (es_cons e_str es_nil)) (v_right hn g)) rfl) rfl (eb_go (t := false) (e_not (e_cal (es_cons (e_var rfl) (es_cons (hl _ rfl) es_nil)) (v_right hy g)) rfl) rfl eb_nil))
  have hσ : M.σ = [M.s0, M.s1, some (.str M.w), M.s3, some M.v4, some (.str M.x), some M.q1, some M.q2, some q3, M.s9, M.s10] := by rw [← h8]; rfl
  have r3' : EnvL Γ κ H (fun _ => True) M.σ [none, none, some (.str M.w), none, none, none, none, none, some (errsD (laterD M.w)), none, none] := by
    rw [hσ]
    exact .no (.no (.yes .str (fun _ _ => trivial) (.no (.no (.no (.no (.no (.yes r3 (fun _ _ => trivial) (.no (.no .nil))))))))))
  refine useT (P := fun _ => True) c.cr r3' he rfl fun H' κ' x k r => ?_
  rw [if_neg (by simp)]
  exact L_7 hd hw hz (c.ext x k r) (rd.mono x c.cr.cl k) hx
end
section
variable {Γ : Gam} {κ κ1 : List Addr} {H H1 : Hp} {g : G} {d : D} {D0 : Ends} {pl : Addr} {xs : List V} {w : Str} {v4 : V} {x : Str} {s0 s1 s3 s5 s6 s7 s8 s9 s10 : Option V} {Sd : List Addr}
theorem L_5 {z : Int} (hd : d ∈ plainD w z ++ moreD w) (hw : Wd w) (hz : z.natAbs < 10 ^ 12) (nx : ∀ σ' H', σ'.length = 11 → H' pl = some (.lst xs) → D0.nx σ' H') (hpl : H1 pl = some (.lst xs)) (c : VL.Cur Γ (fun a => a = pl) H1 κ H g) (rd : Rep Γ κ H 0 v4 d [] Sd) (hS : ∀ a ∈ Sd, H1 a = none) (hx : reprD d = some x) :
    t5 Γ TK D0 [s0, s1, some (.str w), s3, some v4, some (.str x), s6, s7, s8, s9, s10] H := by
  have he : evs P12 ms5 [none, none, some (.str w), none, some (.raw v4), none, none, none, none, none, none] g = some ([errsD (.raw v4), errsD (.raw v4), errsD (laterD w)], g) :=
    es_cons (e_cal (es_cons (e_var rfl) es_nil) (by rw [p_first]; exact v_first _ g)) (es_cons (e_cal (es_cons (e_var rfl) es_nil) (by rw [p_called]; exact v_called _ g)) (es_cons (e_cal (es_cons (e_tup (es_cons e_str (es_cons (e_var rfl) es_nil)) rfl) es_nil) (by rw [p_first]; exact v_first _ g)) es_nil))
  refine useXs (P := fun _ => False) c.cr (.no (.no (.yes .str (fun _ z => nomatch z) (.no (.yes .raw (fun _ z => nomatch z) (.no (.no (.no (.no (.no (.no .nil))))))))))) he fun vs H6 κ6 O S x6 k6 c6 f6 l6 r6 => ?_
  have e0 := r6.own0' rfl
  subst e0
  obtain ⟨S', q6, ls⟩ : ∃ S', RepL Γ κ6 H6 0 vs [errsD (.raw v4), errsD (.raw v4), errsD (laterD w)] [] S' ∧ ∀ a ∈ S', a ∈ S := ⟨S, r6, fun _ h => h⟩
  obtain ⟨q1, Sa, hq1, ra, la⟩ := q6.pick 0 _ rfl
  obtain ⟨q2, Sb, hq2, rb, lb⟩ := q6.pick 1 _ rfl
  obtain ⟨q3, Sc, hq3, rc, lc⟩ := q6.pick 2 _ rfl
  have hvs : vs = [q1, q2, q3] := by
    have hl := q6.len
    match vs, hl with
    | [a, b, c], _ =>
      cases hq1; cases hq2; cases hq3; rfl
  have hfr : ∀ a ∈ S, H a = none := fun a ha => (l6 a ha).elim id fun z => nomatch z
  obtain ⟨o0, p0, p1, p2⟩ := c.kp pl rfl
  rw [hpl] at p0; cases p0
  have p6 : H6 pl = some (.lst xs) := x6 _ _ p1 p2
  have n6 : pl ∉ κ6 := k6.notin p1 p2
  have hSd : ∀ a ∈ Sd, a ≠ pl ∧ a ∉ Sa ∧ a ∉ Sb := fun a ha => by
    obtain ⟨o, ho⟩ := ((rd.dom c.cr.cl).2 a ha).1
    refine ⟨fun z => ?_, fun z => ?_, fun z => ?_⟩
    · have := hS a ha
      rw [z, hpl] at this; cases this
    · have := hfr a (ls a (la a z))
      rw [ho] at this; cases this
    · have := hfr a (ls a (lb a z))
      rw [ho] at this; cases this
  let M : Mid Γ := { En := D0, pl := pl, xs := xs, w := w, v4 := v4, x := x, q1 := q1, q2 := q2, s0 := s0, s1 := s1, s3 := s3, s8 := some q3, s9 := s9, s10 := s10, κ6 := κ6, H6 := H6, S1 := Sa, S2 := Sb, Sd := Sd, hpl := p6, r1 := ra, r2 := rb, nx := nx, fr := hSd }
  have c2 : M.Cur κ6 H6 g := ⟨c6, fun a ha => by
    rcases ha with rfl | ha | ha
    · exact ⟨_, p6, p6, n6⟩
    · obtain ⟨⟨o, ho⟩, hn⟩ := (ra.dom c6.cl).2 a ha
      exact ⟨o, ho, ho, hn⟩
    · obtain ⟨⟨o, ho⟩, hn⟩ := (rb.dom c6.cl).2 a ha
      exact ⟨o, ho, ho, hn⟩⟩
  exact ⟨q1, q2, q3, hvs, L_6 (M := M) hd hw hz c2 (rd.mono x6 c.cr.cl k6) hx rfl rc⟩
theorem L_4 {z : Int} (hd : d ∈ plainD w z ++ moreD w) (hw : Wd w) (hz : z.natAbs < 10 ^ 12) (nx : ∀ σ' H', σ'.length = 11 → H' pl = some (.lst xs) → D0.nx σ' H') (hpl : H1 pl = some (.lst xs)) (c : VL.Cur Γ (fun a => a = pl) H1 κ H g) (rd : Rep Γ κ H 0 v4 d [] Sd) (hS : ∀ a ∈ Sd, H1 a = none) :
    t4 Γ TK D0 [s0, s1, some (.str w), s3, some v4, s5, s6, s7, s8, s9, s10] H := by
  obtain ⟨x, hx⟩ := things_repr hw hz d hd
  have he : ev P12 mN [none, none, none, none, some d, none, none, none, none, none, none] g = some (.str x, g) := e_bui (es_cons (e_var rfl) es_nil) (by show (reprD d).map D.str = _; rw [hx]; rfl)
  refine useX (P := fun _ => True) c.cr (.no (.no (.no (.no (.yes rd (fun _ _ => trivial) (.no (.no (.no (.no (.no (.no .nil))))))))))) he fun v H' κ' O S x' k' c' f' l' r' => ?_
  cases r'
  exact L_5 hd hw hz nx hpl (c.ext x' k' c') (rd.mono x' c.cr.cl k') hS hx
end
end VL
/-! K01zd: the law. -/
namespace VL
open PySem L2 PyProof.Rows VE
/-- .. its value seen as shared -/
theorem useX0 {Γ : Gam} {κ : List Addr} {H : Hp} {g g1 : G} {P : Addr → Prop} {T : Tab} {m : Ex} {σ : List (Option V)} {env : VL.Env} {d : D} {Q : VK} (c : CellR Γ κ H g) (r : EnvL Γ κ H P σ env) (e : ev T.Φ m env g = some (d, g1))
    (k : ∀ v H' κ' S, Ext κ H H' → KExt κ κ' H → CellR Γ κ' H' g1 → (∀ a ∈ S, H a = none ∨ P a) → Rep Γ κ' H' 0 v d [] S → Q v H') : tX Γ T m σ H Q := by
  obtain ⟨SI, r', hp⟩ := r.env c.cl
  refine ⟨κ, g, env, SI, c, r', d, g1, e, fun v H' κ' O S st rp => ?_⟩
  obtain ⟨O', S', q, ls⟩ := rp.less 0 (Nat.zero_le _)
  cases q.own0
  refine k v H' κ' S' st.ext st.kx st.cr (fun a ha => ?_) q
  rcases ls.new st.nd a ha with z | ⟨z, _⟩
  · exact (st.al a z).imp id fun ⟨i, _, q⟩ => hp i a q
  · exact .inl (st.fr a z)
section
variable {Γ : Gam} {κ κ1 : List Addr} {H H1 : Hp} {g : G} {D0 : Ends} {pl p0 : Addr} {xs : List V} {w : Str} {d1 : Int} {s0 s2 s3 s4 s5 s6 s7 s8 s9 s10 : Option V}
/-- what holds in the loop's body, while the purse is read -/
structure Bod (Γ : Gam) (D0 : Ends) (pl p0 : Addr) (xs : List V) (d1 : Int) (H1 : Hp) (m : Nat) (κ : List Addr) (H : Hp) (g : G) : Prop where
  nx : ∀ σ' H', σ'.length = 11 → H' pl = some (.lst xs) → D0.nx σ' H'
  hpl : H1 pl = some (.lst xs)
  cur : VL.Cur Γ (fun a => a = pl) H1 κ H g
  old : ∀ a, H a = none → H1 a = none
  dc : Dc g 0 d1 0 m
  cel : κ[0]? = some p0
  d0 : 0 ≤ d1
  d2 : d1 < 2147483629
theorem Bod.ext {m m' : Nat} {H' : Hp} {κ' : List Addr} {g' : G} (b : Bod Γ D0 pl p0 xs d1 H1 m κ H g) (x : Ext κ H H') (k : KExt κ κ' H) (c : CellR Γ κ' H' g') (dc : Dc g' 0 d1 0 m') : Bod Γ D0 pl p0 xs d1 H1 m' κ' H' g' where
  nx := b.nx
  hpl := b.hpl
  cur := ⟨c, fun a ha => let ⟨o, e0, e1, n⟩ := b.cur.kp a ha; ⟨o, e0, x a o e1 n, k.notin e1 n⟩⟩
  old := fun a h => b.old a (x.dom c.cl k.sub h)
  dc := dc
  cel := k.get b.cel
  d0 := b.d0
  d2 := b.d2
theorem L_3 (b : Bod Γ D0 pl p0 xs d1 H1 20 κ H g) (hw : Wd w) {v3 : V} {S3 : List Addr} (r3 : Rep Γ κ H 0 v3 (.lst (plainD w (-d1))) [] S3) (h3 : ∀ a ∈ S3, H1 a = none) :
    t3 Γ TK D0 [s0, some (.ref p0), some (.str w), some v3, s4, s5, s6, s7, s8, s9, s10] H := by
  have hlen : (plainD w (-d1) ++ moreD w).length = 11 := rfl
  obtain ⟨d, hd, g3, e3, dc3, _⟩ := v_one_of (xs := plainD w (-d1) ++ moreD w) b.dc (by omega) (by rw [hlen]; omega) (by rw [hlen]; omega) (by rw [hlen]; decide +kernel)
  have hadd : binop .add (.lst (plainD w (-d1))) (.lst (moreD w)) = some (.lst (plainD w (-d1) ++ moreD w)) := by kernel_rfl
  have he : ev P12 mT [none, some (.cel 0), some (.str w), some (.lst (plainD w (-d1))), none, none, none, none, none, none, none] g = some (d, g3) :=
    e_cal (es_cons (e_var rfl) (es_cons (e_bin (e_var rfl) (e_lst (es_cons (e_lst (es_cons (e_var rfl) es_nil) rfl) (es_cons (e_lst (es_cons (e_lst (es_cons (e_var rfl) es_nil) rfl) (es_cons (e_dic1 e_str (e_var rfl)) es_nil)) rfl) es_nil)) rfl) hadd) es_nil)) (by rw [p_one]; exact e3)
  have hz : (-d1).natAbs < 10 ^ 12 := by have := b.d0; have := b.d2; omega
  refine useX0 (P := fun a => H1 a = none) b.cur.cr (.no (.yes (.cel b.cel) (fun _ z => nomatch z) (.yes .str (fun _ z => nomatch z) (.yes r3 h3 (.no (.no (.no (.no (.no (.no (.no .nil))))))))))) he fun v H' κ' S x k c l r => ?_
  have b' := b.ext x k c dc3
  exact L_4 (D0 := D0) (H1 := H1) hd hw hz b'.nx b'.hpl b'.cur r fun a ha => (l a ha).elim (b.old a) id
theorem L_2 (b : Bod Γ D0 pl p0 xs d1 H1 20 κ H g) (hw : Wd w) : t2 Γ TK D0 [s0, some (.ref p0), some (.str w), s3, s4, s5, s6, s7, s8, s9, s10] H := by
  obtain ⟨da, db, hg, _, _⟩ := b.dc
  have he : ev P12 mPl [none, some (.cel 0), some (.str w), none, none, none, none, none, none, none, none] g = some (.lst (plainD w (-d1)), g) :=
    e_lst (es_cons e_non (es_cons e_bl (es_cons e_bl (es_cons e_int (es_cons (e_var rfl) (es_cons (e_neg (e_sub (e_var rfl) e_int (s_cel hg rfl))) (es_cons (e_tup (es_cons e_str (es_cons (e_var rfl) (es_cons e_int (es_cons e_int es_nil)))) rfl)
      (es_cons (e_tup (es_cons (e_var rfl) (es_cons (e_lst (es_cons (e_var rfl) es_nil) rfl) es_nil)) rfl) (es_cons (e_dic1 (e_var rfl) (e_lst (es_cons (e_var rfl) es_nil) rfl)) es_nil))))))))) rfl
  refine useX0 (P := fun _ => False) b.cur.cr (.no (.yes (.cel b.cel) (fun _ z => nomatch z) (.yes .str (fun _ z => nomatch z) (.no (.no (.no (.no (.no (.no (.no (.no .nil))))))))))) he fun v H' κ' S x k c l r => ?_
  exact L_3 (b.ext x k c b.dc) hw r fun a ha => (l a ha).elim (b.old a) fun z => nomatch z
theorem L_1 (b : Bod Γ D0 pl p0 xs d1 H1 0 κ H g) : t1 Γ TK D0 [s0, some (.ref p0), s2, s3, s4, s5, s6, s7, s8, s9, s10] H := by
  obtain ⟨w, g', e, hw, dc, _⟩ := v_word b.dc
  have he : ev P12 mW [none, some (.cel 0), none, none, none, none, none, none, none, none, none] g = some (.str w, g') := e_cal (es_cons (e_var rfl) es_nil) (by rw [p_word]; exact e)
  refine useX0 (P := fun _ => False) b.cur.cr (.no (.yes (.cel b.cel) (fun _ z => nomatch z) (.no (.no (.no (.no (.no (.no (.no (.no (.no .nil))))))))))) he fun v H' κ' S x k c l r => ?_
  cases r
  exact L_2 (b.ext x k c dc) hw
end
theorem law_run {Γ : Gam} {a : Addr} {ns : List Int} {H : Hp} {Q : VK} {D0 : Ends} (hS : SqL Γ.K H a (ns.map V.int)) (hl : ns.length ≤ 63) (hD : D0.rt = Q) (hQ : ∀ H', Q (.bl true) H') : tLaw Γ TK D0 (L2.start nLaw [.ref a]) H := by
  have rs : ∃ S, Rep Γ [] H 0 (.ref a) (.scr ns) [] S := by
    rcases hS with (h | ⟨o, h⟩) | ⟨o, its, n, h⟩
    · exact ⟨_, .scr1 h (by simp)⟩
    · exact ⟨_, .scr (.inl ⟨o, h⟩)⟩
    · exact ⟨_, .scr (.inr ⟨o, its, n, h⟩)⟩
  obtain ⟨Ss, rs⟩ := rs
  obtain ⟨g, eg, dc, gl⟩ := v_purses (ns := ns) (by omega)
  have he : ev P12 mP [some (.scr ns), none, none, none, none, none, none, none, none, none, none] [] = some (.lst [.cel 0], g) := e_cal (es_cons (e_var rfl) (es_cons e_int es_nil)) (by rw [p_purses]; exact eg)
  show tSeq (tFor (iList Γ.K (tX Γ TK mP)) (gName 1) (t1 Γ TK)) (tE Γ TK) D0 [some (.ref a), none, none, none, none, none, none, none, none, none, none] H
  refine useX0 (P := fun _ => True) cell0 (.yes rs (fun _ _ => trivial) (.no (.no (.no (.no (.no (.no (.no (.no (.no (.no .nil))))))))))) he fun v H1 κ1 S x k c l r => ?_
  cases r with
  | @lst0 pl vs ds O S h1 h2 h3 =>
  obtain ⟨v1, rfl, q1⟩ := h3.one
  cases q1 with
  | @cel n i p0 hk =>
  have s1 : 0 ≤ seedI ns % 2147483629 := Int.emod_nonneg _ (by omega)
  have s2 : seedI ns % 2147483629 < 2147483629 := Int.emod_lt_of_pos _ (by omega)
  refine ⟨pl, rfl, ⟨_, .inl (.inl h1)⟩, ?_⟩
  refine for_list (K := Γ.K) (a := pl) (xs := [.ref p0]) (fun i σ H' => σ.length = 11 ∧ H' pl = some (.lst [.ref p0]) ∧ (i = 0 → H' = H1 ∧ σ = [some (.ref a), none, none, none, none, none, none, none, none, none, none])) ⟨rfl, h1, fun _ => ⟨rfl, rfl⟩⟩ (fun i σ H' _ hp => .inl (.inl hp.2.1)) (fun i y σ H' hi hp => ?_) fun σ H' hp => L_E hD hQ σ H' hp.1
  cases i with
  | succ i => simp at hi
  | zero =>
    simp only [List.getElem?_cons_zero, Option.some.injEq] at hi
    subst hi
    obtain ⟨rfl, rfl⟩ := hp.2.2 rfl
    show t1 Γ TK _ [some (.ref a), some (.ref p0), none, none, none, none, none, none, none, none, none] H'
    refine L_1 (pl := pl) (xs := [.ref p0]) (d1 := seedI ns % 2147483629) (H1 := H') (κ := κ1) (g := g) ?_
    exact ⟨fun σ' H2 h3 h4 => ⟨h3, h4, fun z => absurd z (by omega)⟩, h1, ⟨c, fun a ha => by subst ha; exact ⟨_, h1, h1, h2⟩⟩, fun _ h => h, dc, hk, s1, s2⟩
end VL
/-! K01ze: each def's promise. -/
namespace VL
open PySem L2 PyProof.Rows VE
/-- what the top has written -/
structure Fx (P : Program) (K : PySem.W.Frag) (mg : Str → Option Value) : Prop where
  sm : (K.lookup sysModules).isSome = true
  ers : ∀ c ∈ ersK, ∃ (C f : Addr) (fd : FuncData), ErrM P K mg C f fd ∧ mg c = some (.ref C)
  exb : ∀ c ∈ (["NothingToRedo", "NothingToUndo", "PostError"] : List Str), ∃ C, PySem.W.excIn K C He.veBase "ValueError.__new__" = true ∧ PySem.W.keepIn K (.ref C) = true ∧ mg c = some (.ref C)
  isx : ∀ c ∈ ensK ++ (["ValueError"] : List Str), IsxK K mg ensK c
  atv : AtvK K mg ensK
  bls : ∀ y ∈ (["all", "dict", "int", "isinstance", "len", "list", "max", "min", "range", "repr", "sum", "tuple"] : List Str), mg y = none
/-- is nothing else asked for -/
def okS (S : Sc) : Bool := decide (S.ens = ensK) && (S.atts.isEmpty && (S.ers.all (fun c => ersK.contains c) && (S.exbs.all (fun c => (["NothingToRedo", "NothingToUndo", "PostError"] : List Str).contains c) && (S.isxs.all (fun c => (ensK ++ (["ValueError"] : List Str)).contains c) &&
  S.bls.all (fun c => (["all", "dict", "int", "isinstance", "len", "list", "max", "min", "range", "repr", "sum", "tuple"] : List Str).contains c)))))
theorem all_mem {l m : List Str} (h : l.all (fun c => m.contains c) = true) {c : Str} (hc : l.contains c = true) : c ∈ m := List.contains_iff_mem.mp (List.all_eq_true.mp h c (List.contains_iff_mem.mp hc))
def Prom (P : Program) (w : World) (K : PySem.W.Frag) (mg : Str → Option Value) (base : Heap) (k : Nat) (T : Tab) (y : Str) (n : Nat) : Prop :=
  ∃ (fa : Addr) (fd : FuncData) (ps : List Str), FnOkG P w K mg base CX0 k fa fd ps (spV ⟨P, w, K, mg⟩ T y n) ∧ mg y = some (.ref fa) ∧ PySem.W.keepIn K (.ref fa) = true ∧ Binds K fd ps []
section
variable {P : Program} {w : World} {K : PySem.W.Frag} {mg : Str → Option Value} {base : Heap} {k : Nat}
theorem spV_eq {Γ : Gam} {T T' : Tab} {y : Str} {n : Nat} (h : T.Φ y = T'.Φ y) (hr : T.rl y = T'.rl y) : spV Γ T y n = spV Γ T' y n := by
  unfold spV
  rw [h, hr]
theorem Prom.to {T T' : Tab} {y : Str} {n j : Nat} (p : Prom P w K mg base k T y n) (h : T.Φ y = T'.Φ y) (hr : T.rl y = T'.rl y) (hk : k ≤ j) : Prom P w K mg base j T' y n := by
  obtain ⟨fa, fd, ps, F, a, b, c⟩ := p
  rw [spV_eq h hr] at F
  exact ⟨fa, fd, ps, F.mono hk, a, b, c⟩
theorem prom {st : Stmt} {x : Str} {f : Addr} {fd : FuncData} {N ps : List Str} {S : Sc} {prog : List VL.St} {Φ : Phi} (G : Fx P K mg) (Fd : FunD K x x (defArgs st) (defBody st) (defScope st) [] [] f fd) (hm : mg x = some (.ref f)) (hb : Binds K fd ps []) (Sc0 : FnScope N ps (defScope st)) (hN : S.N = N) (hsc : S.sc = defScope st)
    (hs : okS S = true) (hchk : chkSs S rlK 0 prog (defBody st) = true) (hk : k ≠ 0) (hf : ∀ q ∈ S.fns, Prom P w K mg base k ⟨Φ, rlK⟩ q.1 q.2) (hT : P12 x = runD Φ prog N.length ps.length) : Prom P w K mg base (k + 1) TK x ps.length := by
  obtain ⟨h1, hs⟩ := and1 hs
  obtain ⟨h2, hs⟩ := and1 hs
  obtain ⟨h3, hs⟩ := and1 hs
  obtain ⟨h4, hs⟩ := and1 hs
  obtain ⟨h5, h6⟩ := and1 hs
  have h1 := of_decide_eq_true h1
  have h2 : S.atts = [] := by simpa using h2
  refine ⟨f, fd, ps, fn_v (T := ⟨Φ, rlK⟩) (S := S) (prog := prog) Fd Sc0 hN hsc (fun y n h => ?_) (fun y h => G.bls y (all_mem h6 h)) (fun c y h => by rw [h2] at h; cases h) hchk G.sm (fun c h => ⟨hk, G.ers c (all_mem h3 h)⟩) (fun c h => G.exb c (all_mem h4 h)) (fun c h => by rw [h1]; exact G.isx c (all_mem h5 h)) (by rw [h1]; exact G.atv) TK rfl (fun ds g d g' hl e => ?_), hm, Fd.kp, hb⟩
  · exact hf (y, n) (List.contains_iff_mem.mp h)
  · have e' : runD Φ prog N.length ps.length ds g = some (d, g') := by rw [← hT]; exact e
    unfold runD at e'
    split at e'
    · rename_i h; cases e'; exact .inl h
    · rename_i h; cases e'; exact .inr ⟨rfl, _, h⟩
    · cases e'
end
end VL
namespace VL
open PySem L2 PyProof.Rows VE
abbrev FnP (K : PySem.W.Frag) (x : Str) (st : Stmt) (f : Addr) (fd : FuncData) : Prop := FunD K x x (defArgs st) (defBody st) (defScope st) [] [] f fd
/-- where the defs stand -/
structure Dx (K : PySem.W.Frag) (mg : Str → Option Value) : Prop where
  d33 : ∃ f fd, FnP K "_law_mixed" (topK 33) f fd ∧ mg "_law_mixed" = some (.ref f)
  d34 : ∃ f fd, FnP K "_law_draw" (topK 34) f fd ∧ mg "_law_draw" = some (.ref f)
  d35 : ∃ f fd, FnP K "_law_one_of" (topK 35) f fd ∧ mg "_law_one_of" = some (.ref f)
  d36 : ∃ f fd, FnP K "_law_word" (topK 36) f fd ∧ mg "_law_word" = some (.ref f)
  d37 : ∃ f fd, FnP K "_law_purse" (topK 37) f fd ∧ mg "_law_purse" = some (.ref f)
  d38 : ∃ f fd, FnP K "_law_purses" (topK 38) f fd ∧ mg "_law_purses" = some (.ref f)
  d39 : ∃ f fd, FnP K "_law_first" (topK 39) f fd ∧ mg "_law_first" = some (.ref f)
  d40 : ∃ f fd, FnP K "_law_called" (topK 40) f fd ∧ mg "_law_called" = some (.ref f)
  d41 : ∃ f fd, FnP K "_law_bare" (topK 41) f fd ∧ mg "_law_bare" = some (.ref f)
  d42 : ∃ f fd, FnP K "_law_code" (topK 42) f fd ∧ mg "_law_code" = some (.ref f)
  d43 : ∃ f fd, FnP K "_law_is_error" (topK 43) f fd ∧ mg "_law_is_error" = some (.ref f)
  d44 : ∃ f fd, FnP K "_law_right" (topK 44) f fd ∧ mg "_law_right" = some (.ref f)
  d45 : ∃ f fd, FnP K "law" (topK 45) f fd ∧ mg "law" = some (.ref f)
section
variable {P : Program} {w : World} {K : PySem.W.Frag} {mg : Str → Option Value} {base : Heap}
theorem c33 : FnScope n_law_mixed ["_law_seed", "_law_spin", "_law_at"] (defScope (topK 33)) := ⟨rfl, rfl, rfl, by decide +kernel, rfl, by decide +kernel, by decide +kernel⟩
theorem p33 (G : Fx P K mg) (E : Dx K mg) : Prom P w K mg base 2 TK "_law_mixed" 3 := by
  obtain ⟨f, fd, F, hm⟩ := E.d33
  refine prom (k := 1) (N := n_law_mixed) (ps := ["_law_seed", "_law_spin", "_law_at"]) (S := s_law_mixed) (prog := b_law_mixed) (Φ := P0) G F hm (F.bindsN (ps := ["_law_seed", "_law_spin", "_law_at"]) fun _ _ _ _ _ _ us hl => match us, hl with | [_, _, _], _ => rfl) c33 rfl rfl (by kernel_rfl) k_law_mixed (by decide) (fun q hq => ?_) (by kernel_rfl)
  cases hq
theorem c34 : FnScope n_law_draw ["_law_dice", "_law_many"] (defScope (topK 34)) := ⟨rfl, rfl, rfl, by decide +kernel, rfl, by decide +kernel, by decide +kernel⟩
theorem p34 (G : Fx P K mg) (E : Dx K mg) : Prom P w K mg base 3 TK "_law_draw" 2 := by
  obtain ⟨f, fd, F, hm⟩ := E.d34
  refine prom (k := 2) (N := n_law_draw) (ps := ["_law_dice", "_law_many"]) (S := s_law_draw) (prog := b_law_draw) (Φ := P1) G F hm (F.bindsN (ps := ["_law_dice", "_law_many"]) fun _ _ _ _ _ _ us hl => match us, hl with | [_, _], _ => rfl) c34 rfl rfl (by kernel_rfl) k_law_draw (by decide) (fun q hq => ?_) (by kernel_rfl)
  simp only [s_law_draw, List.mem_cons, List.not_mem_nil, or_false] at hq
  rcases hq with rfl
  · exact (p33 G E).to (by kernel_rfl) rfl (by decide)
theorem c35 : FnScope n_law_one_of ["_law_dice", "_law_some"] (defScope (topK 35)) := ⟨rfl, rfl, rfl, by decide +kernel, rfl, by decide +kernel, by decide +kernel⟩
theorem p35 (G : Fx P K mg) (E : Dx K mg) : Prom P w K mg base 4 TK "_law_one_of" 2 := by
  obtain ⟨f, fd, F, hm⟩ := E.d35
  refine prom (k := 3) (N := n_law_one_of) (ps := ["_law_dice", "_law_some"]) (S := s_law_one_of) (prog := b_law_one_of) (Φ := P2) G F hm (F.bindsN (ps := ["_law_dice", "_law_some"]) fun _ _ _ _ _ _ us hl => match us, hl with | [_, _], _ => rfl) c35 rfl rfl (by kernel_rfl) k_law_one_of (by decide) (fun q hq => ?_) (by kernel_rfl)
  simp only [s_law_one_of, List.mem_cons, List.not_mem_nil, or_false] at hq
  rcases hq with rfl
  · exact (p34 G E).to (by kernel_rfl) rfl (by decide)
theorem c36 : FnScope n_law_word ["_law_dice"] (defScope (topK 36)) := ⟨rfl, rfl, rfl, by decide +kernel, rfl, by decide +kernel, by decide +kernel⟩
theorem p36 (G : Fx P K mg) (E : Dx K mg) : Prom P w K mg base 5 TK "_law_word" 1 := by
  obtain ⟨f, fd, F, hm⟩ := E.d36
  refine prom (k := 4) (N := n_law_word) (ps := ["_law_dice"]) (S := s_law_word) (prog := b_law_word) (Φ := P3) G F hm (F.bindsN (ps := ["_law_dice"]) fun _ _ _ _ _ _ us hl => match us, hl with | [_], _ => rfl) c36 rfl rfl (by kernel_rfl) k_law_word (by decide) (fun q hq => ?_) (by kernel_rfl)
  simp only [s_law_word, List.mem_cons, List.not_mem_nil, or_false] at hq
  rcases hq with rfl | rfl
  · exact (p34 G E).to (by kernel_rfl) rfl (by decide)
  · exact (p35 G E).to (by kernel_rfl) rfl (by decide)
theorem c37 : FnScope n_law_purse ["_law_script", "_law_at"] (defScope (topK 37)) := ⟨rfl, rfl, rfl, by decide +kernel, rfl, by decide +kernel, by decide +kernel⟩
theorem p37 (G : Fx P K mg) (E : Dx K mg) : Prom P w K mg base 2 TK "_law_purse" 2 := by
  obtain ⟨f, fd, F, hm⟩ := E.d37
  refine prom (k := 1) (N := n_law_purse) (ps := ["_law_script", "_law_at"]) (S := s_law_purse) (prog := b_law_purse) (Φ := P4) G F hm (F.bindsN (ps := ["_law_script", "_law_at"]) fun _ _ _ _ _ _ us hl => match us, hl with | [_, _], _ => rfl) c37 rfl rfl (by kernel_rfl) k_law_purse (by decide) (fun q hq => ?_) (by kernel_rfl)
  cases hq
theorem c38 : FnScope n_law_purses ["_law_script", "_law_few"] (defScope (topK 38)) := ⟨rfl, rfl, rfl, by decide +kernel, rfl, by decide +kernel, by decide +kernel⟩
theorem p38 (G : Fx P K mg) (E : Dx K mg) : Prom P w K mg base 3 TK "_law_purses" 2 := by
  obtain ⟨f, fd, F, hm⟩ := E.d38
  refine prom (k := 2) (N := n_law_purses) (ps := ["_law_script", "_law_few"]) (S := s_law_purses) (prog := b_law_purses) (Φ := P5) G F hm (F.bindsN (ps := ["_law_script", "_law_few"]) fun _ _ _ _ _ _ us hl => match us, hl with | [_, _], _ => rfl) c38 rfl rfl (by kernel_rfl) k_law_purses (by decide) (fun q hq => ?_) (by kernel_rfl)
  simp only [s_law_purses, List.mem_cons, List.not_mem_nil, or_false] at hq
  rcases hq with rfl
  · exact (p37 G E).to (by kernel_rfl) rfl (by decide)
theorem c39 : FnScope n_law_first ["_law_thing"] (defScope (topK 39)) := ⟨rfl, rfl, rfl, by decide +kernel, rfl, by decide +kernel, by decide +kernel⟩
theorem p39 (G : Fx P K mg) (E : Dx K mg) : Prom P w K mg base 2 TK "_law_first" 1 := by
  obtain ⟨f, fd, F, hm⟩ := E.d39
  refine prom (k := 1) (N := n_law_first) (ps := ["_law_thing"]) (S := s_law_first) (prog := b_law_first) (Φ := P6) G F hm (F.bindsN (ps := ["_law_thing"]) fun _ _ _ _ _ _ us hl => match us, hl with | [_], _ => rfl) c39 rfl rfl (by kernel_rfl) k_law_first (by decide) (fun q hq => ?_) (by kernel_rfl)
  cases hq
theorem c40 : FnScope n_law_called ["_law_thing"] (defScope (topK 40)) := ⟨rfl, rfl, rfl, by decide +kernel, rfl, by decide +kernel, by decide +kernel⟩
theorem p40 (G : Fx P K mg) (E : Dx K mg) : Prom P w K mg base 2 TK "_law_called" 1 := by
  obtain ⟨f, fd, F, hm⟩ := E.d40
  refine prom (k := 1) (N := n_law_called) (ps := ["_law_thing"]) (S := s_law_called) (prog := b_law_called) (Φ := P7) G F hm (F.bindsN (ps := ["_law_thing"]) fun _ _ _ _ _ _ us hl => match us, hl with | [_], _ => rfl) c40 rfl rfl (by kernel_rfl) k_law_called (by decide) (fun q hq => ?_) (by kernel_rfl)
  cases hq
theorem c41 : FnScope n_law_bare [] (defScope (topK 41)) := ⟨rfl, rfl, rfl, by decide +kernel, rfl, by decide +kernel, by decide +kernel⟩
theorem p41 (G : Fx P K mg) (E : Dx K mg) : Prom P w K mg base 2 TK "_law_bare" 0 := by
  obtain ⟨f, fd, F, hm⟩ := E.d41
  refine prom (k := 1) (N := n_law_bare) (ps := []) (S := s_law_bare) (prog := b_law_bare) (Φ := P8) G F hm (F.bindsN (ps := []) fun _ _ _ _ _ _ us hl => match us, hl with | [], _ => rfl) c41 rfl rfl (by kernel_rfl) k_law_bare (by decide) (fun q hq => ?_) (by kernel_rfl)
  cases hq
theorem c42 : FnScope n_law_code ["_law_error"] (defScope (topK 42)) := ⟨rfl, rfl, rfl, by decide +kernel, rfl, by decide +kernel, by decide +kernel⟩
theorem p42 (G : Fx P K mg) (E : Dx K mg) : Prom P w K mg base 2 TK "_law_code" 1 := by
  obtain ⟨f, fd, F, hm⟩ := E.d42
  refine prom (k := 1) (N := n_law_code) (ps := ["_law_error"]) (S := s_law_code) (prog := b_law_code) (Φ := P9) G F hm (F.bindsN (ps := ["_law_error"]) fun _ _ _ _ _ _ us hl => match us, hl with | [_], _ => rfl) c42 rfl rfl (by kernel_rfl) k_law_code (by decide) (fun q hq => ?_) (by kernel_rfl)
  cases hq
theorem c43 : FnScope n_law_is_error ["_law_error"] (defScope (topK 43)) := ⟨rfl, rfl, rfl, by decide +kernel, rfl, by decide +kernel, by decide +kernel⟩
theorem p43 (G : Fx P K mg) (E : Dx K mg) : Prom P w K mg base 2 TK "_law_is_error" 1 := by
  obtain ⟨f, fd, F, hm⟩ := E.d43
  refine prom (k := 1) (N := n_law_is_error) (ps := ["_law_error"]) (S := s_law_is_error) (prog := b_law_is_error) (Φ := P10) G F hm (F.bindsN (ps := ["_law_error"]) fun _ _ _ _ _ _ us hl => match us, hl with | [_], _ => rfl) c43 rfl rfl (by kernel_rfl) k_law_is_error (by decide) (fun q hq => ?_) (by kernel_rfl)
  cases hq
theorem c44 : FnScope n_law_right ["_law_some", "_law_noted"] (defScope (topK 44)) := ⟨rfl, rfl, rfl, by decide +kernel, rfl, by decide +kernel, by decide +kernel⟩
theorem p44 (G : Fx P K mg) (E : Dx K mg) : Prom P w K mg base 3 TK "_law_right" 2 := by
  obtain ⟨f, fd, F, hm⟩ := E.d44
  refine prom (k := 2) (N := n_law_right) (ps := ["_law_some", "_law_noted"]) (S := s_law_right) (prog := b_law_right) (Φ := P11) G F hm (F.bindsN (ps := ["_law_some", "_law_noted"]) fun _ _ _ _ _ _ us hl => match us, hl with | [_, _], _ => rfl) c44 rfl rfl (by kernel_rfl) k_law_right (by decide) (fun q hq => ?_) (by kernel_rfl)
  simp only [s_law_right, List.mem_cons, List.not_mem_nil, or_false] at hq
  rcases hq with rfl | rfl
  · exact (p42 G E).to (by kernel_rfl) rfl (by decide)
  · exact (p43 G E).to (by kernel_rfl) rfl (by decide)
theorem c45 : FnScope nLaw ["_law_script"] (defScope (topK 45)) := ⟨rfl, rfl, rfl, by decide +kernel, rfl, by decide +kernel, by decide +kernel⟩
theorem proms (G : Fx P K mg) (E : Dx K mg) : ∀ q ∈ sLaw.fns, Prom P w K mg base 5 TK q.1 q.2 := by
  intro q hq
  simp only [sLaw, List.mem_cons, List.not_mem_nil, or_false] at hq
  rcases hq with rfl | rfl | rfl | rfl | rfl | rfl | rfl | rfl | rfl
  · exact (p41 G E).to rfl rfl (by decide)
  · exact (p40 G E).to rfl rfl (by decide)
  · exact (p42 G E).to rfl rfl (by decide)
  · exact (p39 G E).to rfl rfl (by decide)
  · exact (p43 G E).to rfl rfl (by decide)
  · exact (p35 G E).to rfl rfl (by decide)
  · exact (p38 G E).to rfl rfl (by decide)
  · exact (p44 G E).to rfl rfl (by decide)
  · exact (p36 G E).to rfl rfl (by decide)
def spLaw (K : PySem.W.Frag) : Sp := fun vs H Q _ => ∃ (a : Addr) (ns : List Int), vs = [.ref a] ∧ SqL K H a (ns.map V.int) ∧ ns.length ≤ 63 ∧ ∀ H', Q (.bl true) H'
theorem ok_law {f : Addr} {fd : FuncData} (G : Fx P K mg) (E : Dx K mg) (F : FnP K "law" (topK 45) f fd) : FnOkG P w K mg base CX0 6 f fd ["_law_script"] (spLaw K) := by
  refine F.okG c45 (fun vs H Q E ⟨a, ns, e, _⟩ => by rw [e]; rfl) (fun cdv A outer s H vs Q E1 hr hg h => ?_)
  obtain ⟨a, ns, rfl, hS, hl, hQ⟩ := h
  refine ⟨tLaw ⟨P, w, K, mg⟩ TK, PSs.nox ?_, law_run hS hl rfl hQ⟩
  have hs : okS sLaw = true := by kernel_rfl
  obtain ⟨h1, hs⟩ := and1 hs
  obtain ⟨h2, hs⟩ := and1 hs
  obtain ⟨h3, hs⟩ := and1 hs
  obtain ⟨h4, hs⟩ := and1 hs
  obtain ⟨h5, h6⟩ := and1 hs
  have C : CokS (cxOf CX0 P w K mg base nLaw "law" (defScope (topK 45)) f cdv A outer s H E1).nox TK sLaw := {
    N := rfl
    sc := rfl
    nd := c45.nd
    calm := rfl
    hu := by
      have := hr.un
      show (A.deeper _).units + 70 < cLine
      omega
    fns := fun y n h => by
      obtain ⟨fa, fd', ps', F', hm, hk, hbd⟩ := proms (w := w) (base := base) G E (y, n) (List.contains_iff_mem.mp h)
      exact ⟨5, fa, fd', ps', hr, hg, F', hm, hk, hbd⟩
    bls := fun y h => G.bls y (all_mem h6 h)
    atts := fun c y h => by cases h
    gu := hg
    sm := G.sm
    ers := fun c h => by cases h
    exbs := fun c h => G.exb c (all_mem h4 h)
    isxs := fun c h => by cases h
    atv := G.atv
    kind := c45.kind
    fn := fun _ => rfl
    hp := PassesOwn.never }
  exact law_ss C
end
end VL
/-! K01zg: what the head reads off the top's heap: own error classes, defs. -/
namespace VL
open PySem L2 PyProof.Rows VE
theorem b2 {a b : Bool} (h : (a && b) = true) : a = true ∧ b = true := Bool.and_eq_true_iff.mp h
/-! ### one class -/
def xcB (K : PySem.W.Frag) (C : Addr) : Bool := match K.lookup C with
  | some ⟨.type t, _, .cls cd, sl⟩ => (match cd.mro, sl.toList with
    | .ref D :: bm, [_, _, _, _, some (.builtin n), _] => decide (t = "type") && (decide (D = C) && (decide (n = "ValueError.__new__") && (cd.hasDict && (!cd.hasDel && PySem.HandSPX.refsVE bm))))
    | _, _ => false)
  | _ => false
theorem xcB_ok {K : PySem.W.Frag} {C : Addr} (h : xcB K C = true) : ∃ nm q N bs bm sn sub ab col dd k0 k1 k2 k3 k5, K.lookup C = some (excClassObj nm q C N bs bm true sn sub ab col dd k0 k1 k2 k3 k5 "ValueError.__new__") ∧ PySem.HandSPX.refsVE bm = true := by
  unfold xcB at h
  split at h
  · rename_i t dd cd sl ho
    split at h
    · rename_i D bm k0 k1 k2 k3 n k5 hm hs
      obtain ⟨h1, h⟩ := b2 h
      obtain ⟨h2, h⟩ := b2 h
      obtain ⟨h3, h⟩ := b2 h
      obtain ⟨h4, h⟩ := b2 h
      obtain ⟨h5, h6⟩ := b2 h
      cases of_decide_eq_true h1
      cases of_decide_eq_true h2
      cases of_decide_eq_true h3
      obtain ⟨cn, bs, mro, ns, cq, hd, sn, sub, ab, col, del⟩ := cd
      dsimp only at hm h4 h5
      subst hm
      subst h4
      obtain rfl : del = false := by simpa using h5
      obtain rfl : sl = #[k0, k1, k2, k3, some (.builtin "ValueError.__new__"), k5] := by
        obtain ⟨l⟩ := sl
        simp only at hs
        rw [hs]
      exact ⟨_, _, _, _, _, _, _, _, _, _, _, _, _, _, _, ho, h6⟩
    · cases h
  · cases h
def oxB (K : PySem.W.Frag) (C : Addr) : Bool := xcB K C && (He.eqO (PySem.W.findIn K (.ref C) "__setattr__") (some (some (.builtin "object.__setattr__"))) && (decide (PySem.W.subIn K (.ref C) (.type "BaseException") = some true) && (decide (PySem.W.typeIn K (.ref C) = some (.type "type")) && PySem.W.keepIn K (.ref C))))
theorem oxB_ok {K : PySem.W.Frag} {C : Addr} (h : oxB K C = true) : OexC K C := by
  obtain ⟨h1, h⟩ := b2 h
  obtain ⟨h2, h⟩ := b2 h
  obtain ⟨h3, h⟩ := b2 h
  obtain ⟨h4, h5⟩ := b2 h
  exact ⟨xcB_ok h1, He.eqO_ok h2, of_decide_eq_true h3, of_decide_eq_true h4, h5⟩
def ecB (K : PySem.W.Frag) (D : Addr) : Bool := He.eqO (PySem.W.findIn K (.ref D) "__getattribute__") (some (some (.builtin "BaseException.__getattribute__"))) && (He.eqO (PySem.W.findIn K (.ref D) "__getattr__") (some none) && (decide (PySem.W.subIn K (.ref D) (.type "BaseException") = some true) && (PySem.W.hasDictIn K D &&
  (He.eqO (PySem.W.findIn K (.ref D) "__class__") (some (some (.builtin "object.__class__"))) && (He.eqO (PySem.W.specialIn K (.builtin "object.__class__") "__get__") (some (some (.builtin "getset_descriptor.__get__"))) && (decide (PySem.W.takesIn K (.builtin "object.__class__") = some true) && decide (PySem.W.mroIn K D (.type "object") = some true)))))))
theorem ecB_ok {K : PySem.W.Frag} {D : Addr} (h : ecB K D = true) : ExcC K D := by
  obtain ⟨h1, h⟩ := b2 h
  obtain ⟨h2, h⟩ := b2 h
  obtain ⟨h3, h⟩ := b2 h
  obtain ⟨h4, h⟩ := b2 h
  obtain ⟨h5, h⟩ := b2 h
  obtain ⟨h6, h⟩ := b2 h
  obtain ⟨h7, h8⟩ := b2 h
  exact ⟨He.eqO_ok h1, He.eqO_ok h2, of_decide_eq_true h3, h4, He.eqO_ok h5, He.eqO_ok h6, of_decide_eq_true h7, of_decide_eq_true h8⟩
/-! ### its __init__ -/
def dflN (K : PySem.W.Frag) : Value → Bool
  | .ref T => (match K.lookup T with
    | some ⟨_, _, .seq its _, _⟩ => (match its.toList with
      | [.none] => true
      | _ => false)
    | _ => false)
  | _ => false
def celC (K : PySem.W.Frag) (C : Addr) : List (Str × Addr) → Bool
  | [(x, cc)] => decide (x = "__class__") && (match K.lookup cc with
    | some ⟨_, _, .cell (some (.ref D)), _⟩ => decide (D = C)
    | _ => false)
  | _ => false
def fil2 (fil : Str) (vs : Array Value) : Bool := match (show Option Value from vs[2]?) with
  | some (.str x _) => fil == x
  | _ => false
def codF (K : PySem.W.Frag) (fil : Str) : Value → Bool
  | .ref c => (match K.lookup c with
    | some ⟨_, _, .fields vs, _⟩ => fil2 fil vs
    | _ => false)
  | _ => false
def inB (K : PySem.W.Frag) (fil : Str) (C f : Addr) (qual : Str) : Bool := match K.lookup f with
  | some ⟨_, _, .func fd, _⟩ => PySem.W.codeIn K fd.code qual && (codF K fil fd.code && (celC K C fd.closure && dflN K fd.defaults))
  | _ => false
def erB (K : PySem.W.Frag) (fil : Str) (C f : Addr) (qual : Str) : Bool := oxB K C && (inB K fil C f qual && (decide (PySem.W.mroIn K C (.ref C) = some true) && (He.eqO (PySem.W.ks_superIn K C C "__init__") (some (some (.builtin "ValueError.__init__"))) &&
  (decide (PySem.W.subIn K (.ref C) (.type "ValueError") = some true) && (He.eqO (PySem.W.findIn K (.ref C) "value") (some none) && (PySem.W.keepIn K (.ref f) && (He.eqO (PySem.W.findIn K (.ref C) "__init__") (some (some (.ref f))) && decide (PySem.W.typeIn K (.ref f) = some (.type "function")))))))))
abbrev FnJ : Type := Option (Str × Str × Arguments × FuncBody × Scope × Addr × Addr)
def fnJ (K : PySem.W.Frag) (f : Addr) : FnJ := match K.lookup f with
  | some ⟨_, _, .func fd, _⟩ => some (fd.name, fd.qualname, fd.params, fd.body, fd.scope, fd.globals, fd.builtins)
  | _ => none
/-- an __init__ as the text has it -/
structure IniT (qual : Str) (st : Stmt) : Prop where
  args : ∃ q1 q2 df, defArgs st = iParams q1 q2 df
  body : ∃ p0 p1 p2 p3 p4 p5 p6 p7 p8, (p2.endLine == p3.line) = true ∧ defBody st = iBody p0 p1 p2 p3 p4 p5 p6 p7 p8
  kind : (defScope st).kind = .function
  co : (defScope st).isCoroutine = false
  gen : (defScope st).isGenerator = false
  cell : ∀ x ∈ (defScope st).names, x.2 ≠ .cell
  sup : (defScope st).names.lookup ("super" : Str) = some .globalImplicit
  cls : (defScope st).names.lookup ("__class__" : Str) = some .free
  slf : (defScope st).names.lookup ("self" : Str) = some .local
  val : (defScope st).names.lookup ("value" : Str) = some .local
def valJ (qual : Str) (st : Stmt) : FnJ := some ("__init__", qual, defArgs st, .stmts (defBody st), defScope st, mainGlobals, builtinsNs)
theorem dflN_ok {K : PySem.W.Frag} {v : Value} (h : dflN K v = true) : ∃ T To tn, v = .ref T ∧ K.lookup T = some To ∧ To.data = .seq [Value.none].toArray tn := by
  unfold dflN at h
  split at h
  · rename_i T
    split at h
    · rename_i oc od its n sl ho
      split at h
      · rename_i hl
        obtain ⟨l⟩ := its
        simp only at hl
        subst hl
        exact ⟨_, _, _, rfl, ho, rfl⟩
      · cases h
    · cases h
  · cases h
theorem celC_ok {K : PySem.W.Frag} {C : Addr} {l : List (Str × Addr)} (h : celC K C l = true) : ∃ cc cl cld csl, l = [(("__class__" : Str), cc)] ∧ K.lookup cc = some ⟨cl, cld, .cell (some (.ref C)), csl⟩ := by
  unfold celC at h
  split at h
  · rename_i x cc
    obtain ⟨h1, h2⟩ := b2 h
    cases of_decide_eq_true h1
    split at h2
    · rename_i ho
      cases of_decide_eq_true h2
      exact ⟨_, _, _, _, rfl, ho⟩
    · cases h2
  · cases h
theorem codF_ok {K : PySem.W.Frag} {fil : Str} {v : Value} (h : codF K fil v = true) : ∃ c ccl cdd vs ccs x tf, v = .ref c ∧ K.lookup c = some ⟨ccl, cdd, .fields vs, ccs⟩ ∧ vs[2]? = some (.str x tf) ∧ (fil == x) = true := by
  unfold codF at h
  split at h
  · rename_i c
    split at h
    · rename_i ccl cdd vs ccs ho
      unfold fil2 at h
      split at h
      · rename_i x tf hv
        exact ⟨_, _, _, _, _, _, _, rfl, ho, hv, h⟩
      · cases h
    · cases h
  · cases h
theorem er_ok {P : Program} {K : PySem.W.Frag} {mg : Str → Option Value} {C f : Addr} {qual : Str} {st : Stmt} (T : IniT qual st) (h : erB K P.main.file C f qual = true) (e : fnJ K f = valJ qual st) (ns : mg "super" = none) (tp : (P.main.scope.names.lookup ("super" : Str)).isSome = false)
    (th : PySem.W.nsIn K cStatics "thirdparty.any" = some none) : ∃ fd, ErrM P K mg C f fd := by
  obtain ⟨h1, h⟩ := b2 h
  obtain ⟨h2, h⟩ := b2 h
  obtain ⟨h3, h⟩ := b2 h
  obtain ⟨h4, h⟩ := b2 h
  obtain ⟨h5, h⟩ := b2 h
  obtain ⟨h6, h⟩ := b2 h
  obtain ⟨h7, h⟩ := b2 h
  obtain ⟨h8, h9⟩ := b2 h
  have ox := oxB_ok h1
  obtain ⟨nm, q, N, bs, bm, sn, sub, ab, col, dd, k0, k1, k2, k3, k5, hC, hbm⟩ := ox.cls
  have hcl : ∃ cd, PySem.W.clsIn K C = some cd := ⟨_, by unfold PySem.W.clsIn; rw [hC]⟩
  obtain ⟨cdD, hcl⟩ := hcl
  obtain ⟨q1, q2, df, ea⟩ := T.args
  obtain ⟨p0, p1, p2, p3, p4, p5, p6, p7, p8, hl, eb⟩ := T.body
  unfold inB at h2
  unfold fnJ at e
  split at h2
  · rename_i oc od fd osl ho
    rw [ho] at e
    obtain ⟨h21, h2⟩ := b2 h2
    obtain ⟨h22, h2⟩ := b2 h2
    obtain ⟨h23, h24⟩ := b2 h2
    obtain ⟨c, ccl, cdd, vs, ccs, x, tf, ec, lc, hv, hf⟩ := codF_ok h22
    obtain ⟨cc, cl, cld, csl, el, lcc⟩ := celC_ok h23
    obtain ⟨Td, To, tn, ed, lT, hT⟩ := dflN_ok h24
    obtain ⟨w1, w2, w3, w4, w5, w6, w7, w8, w9, w10, w11, w12, w13, w14, w15⟩ := fd
    have e2 : (some (w1, w2, w3, w4, w5, w6, w15) : FnJ) = valJ qual st := e
    unfold valJ at e2
    simp only [Option.some.injEq, Prod.mk.injEq] at e2
    obtain ⟨e1, e2, e3, e4, e5, e6, e7⟩ := e2
    dsimp only at ec el ed h21
    subst e1 e2 e3 e4 e5 e6 e7 ec el ed
    refine ⟨_, ⟨⟨ox, ⟨w2, q1, q2, df, defScope st, cc, c, Td, w9, w10, w11, w14, To, tn, w12, p0, p1, p2, p3, p4, p5, p6, p7, p8, oc, od, osl, ccl, cdd, vs, ccs, x, tf, cl, cld, csl, cdD, hl, ?_, ho, h21, lT, hT, T.kind, T.co, T.gen, T.cell, T.sup, T.cls, T.slf, T.val, lc, hv, hf, lcc, hcl, of_decide_eq_true h3⟩, ns, tp, th, He.eqO_ok h4, of_decide_eq_true h5, He.eqO_ok h6, h7⟩, He.eqO_ok h8, of_decide_eq_true h9⟩⟩
    rw [ea, eb]
  · cases h2
end VL
/-! K01zh: the top of k01's row runs. -/
namespace VL
open PySem L2 PyProof.Rows VE
abbrev RK : PySem.W.OpenRow := PySem.W.OpenLaw.row PySem.Challenge.rw_postways_k01_errors_made
/-- the error classes with an __init__: name, its __init__'s qualified name, place -/
def ersT : List (Str × Str × Nat) := [("InvalidRows", "InvalidRows.__init__", 2), ("InvalidRun", "InvalidRun.__init__", 3), ("InvalidLetter", "InvalidLetter.__init__", 4), ("InvalidLetters", "InvalidLetters.__init__", 5), ("InvalidParty", "InvalidParty.__init__", 6), ("InvalidNames", "InvalidNames.__init__", 7), ("InvalidEvent", "InvalidEvent.__init__", 8), ("InvalidEvents", "InvalidEvents.__init__", 9), ("InvalidFront", "InvalidFront.__init__", 10), ("InvalidLine", "InvalidLine.__init__", 11), ("InvalidNumber", "InvalidNumber.__init__", 12), ("InvalidKind", "InvalidKind.__init__", 13), ("InvalidPlace", "InvalidPlace.__init__", 14), ("InvalidMake", "InvalidMake.__init__", 15), ("InvalidLane", "InvalidLane.__init__", 16), ("InvalidSlots", "InvalidSlots.__init__", 17), ("InvalidLog", "InvalidLog.__init__", 18), ("InvalidRuns", "InvalidRuns.__init__", 19), ("InvalidPieces", "InvalidPieces.__init__", 20), ("InvalidWays", "InvalidWays.__init__", 21), ("InvalidPlan", "InvalidPlan.__init__", 22), ("InvalidWay", "InvalidWay.__init__", 23), ("InvalidDesk", "InvalidDesk.__init__", 24), ("InvalidRecord", "InvalidRecord.__init__", 25), ("InvalidScript", "InvalidScript.__init__", 26), ("InvalidText", "InvalidText.__init__", 27), ("Lies", "Lies.__init__", 28), ("Refused", "Refused.__init__", 29)]
def outK : List Str := ["all", "dict", "int", "isinstance", "len", "list", "max", "min", "range", "repr", "sum", "tuple", "super", "ValueError"]
def e33 : He.DefD := ⟨("_law_mixed", none), "_law_mixed", "_law_mixed", defArgs (topK 33), defBody (topK 33), defScope (topK 33), [], []⟩
def e34 : He.DefD := ⟨("_law_draw", none), "_law_draw", "_law_draw", defArgs (topK 34), defBody (topK 34), defScope (topK 34), [], []⟩
def e35 : He.DefD := ⟨("_law_one_of", none), "_law_one_of", "_law_one_of", defArgs (topK 35), defBody (topK 35), defScope (topK 35), [], []⟩
def e36 : He.DefD := ⟨("_law_word", none), "_law_word", "_law_word", defArgs (topK 36), defBody (topK 36), defScope (topK 36), [], []⟩
def e37 : He.DefD := ⟨("_law_purse", none), "_law_purse", "_law_purse", defArgs (topK 37), defBody (topK 37), defScope (topK 37), [], []⟩
def e38 : He.DefD := ⟨("_law_purses", none), "_law_purses", "_law_purses", defArgs (topK 38), defBody (topK 38), defScope (topK 38), [], []⟩
def e39 : He.DefD := ⟨("_law_first", none), "_law_first", "_law_first", defArgs (topK 39), defBody (topK 39), defScope (topK 39), [], []⟩
def e40 : He.DefD := ⟨("_law_called", none), "_law_called", "_law_called", defArgs (topK 40), defBody (topK 40), defScope (topK 40), [], []⟩
def e41 : He.DefD := ⟨("_law_bare", none), "_law_bare", "_law_bare", defArgs (topK 41), defBody (topK 41), defScope (topK 41), [], []⟩
def e42 : He.DefD := ⟨("_law_code", none), "_law_code", "_law_code", defArgs (topK 42), defBody (topK 42), defScope (topK 42), [], []⟩
def e43 : He.DefD := ⟨("_law_is_error", none), "_law_is_error", "_law_is_error", defArgs (topK 43), defBody (topK 43), defScope (topK 43), [], []⟩
def e44 : He.DefD := ⟨("_law_right", none), "_law_right", "_law_right", defArgs (topK 44), defBody (topK 44), defScope (topK 44), [], []⟩
def e45 : He.DefD := ⟨("law", none), "law", "law", defArgs (topK 45), defBody (topK 45), defScope (topK 45), [], []⟩
def defK : List He.DefD := [e33, e34, e35, e36, e37, e38, e39, e40, e41, e42, e43, e44, e45]
def defN : List Str := ["_law_mixed", "_law_draw", "_law_one_of", "_law_word", "_law_purse", "_law_purses", "_law_first", "_law_called", "_law_bare", "_law_code", "_law_is_error", "_law_right", "law"]
def filK : Str := PySem.Challenge.pw_postways_k01_errors_made.main.file
/-- does the module's name x stand for an object -/
def gloB (K : PySem.W.Frag) (x : Str) : Bool := He.eqO (PySem.W.nsIn K mainGlobals x) (some (some (.ref (He.ga K x))))
def kitB (K : PySem.W.Frag) (C : Addr) (x : Str) : Bool := ensK.all (fun c => decide (PySem.W.kitOne K (.ref C) (.ref (He.ga K c)) = some (excSub x c))) && decide (PySem.W.kitOne K (.ref C) (.type "ValueError") = some (excSub x "ValueError"))
def enB (K : PySem.W.Frag) (x : Str) : Bool := gloB K x && (ecB K (He.ga K x) && (xfB K (He.ga K x) && (He.eqO (PySem.W.findIn K (.ref (He.ga K x)) "value") (some none) && kitB K (He.ga K x) x)))
def exB (K : PySem.W.Frag) (x : Str) : Bool := PySem.W.excIn K (He.ga K x) He.veBase "ValueError.__new__" && PySem.W.keepIn K (.ref (He.ga K x))
def exK (K : PySem.W.Frag) : Bool := (K.lookup sysModules).isSome && (He.eqO (PySem.W.nsIn K cStatics "thirdparty.any") (some none) && (ersT.all (fun t => erB K filK (He.ga K t.1) (He.ma K (He.ga K t.1) "__init__") t.2.1) && (ensK.all (enB K) && ((["NothingToRedo", "NothingToUndo", "PostError"] : List Str).all (exB K) &&
  (outK.all (fun x => He.eqO (PySem.W.nsIn K mainGlobals x) (some none)) && defN.all (gloB K))))))
/-- what is looked at: where -/
def gNs (g : Addr → Option Obj) (a : Addr) (x : Str) : Addr := match g a with
  | some o => (match PySem.W.lookIn x o with
    | some (some (.ref b)) => b
    | _ => 0)
  | none => 0
def fnAs (g : Addr → Option Obj) (f : Addr) : List Addr := match g f with
  | some ⟨_, _, .func fd, _⟩ => f :: (He.refV fd.code ++ (He.refV fd.defaults ++ fd.closure.map (·.2)))
  | _ => []
def clsAs (g : Addr → Option Obj) (C : Addr) : List Addr := match g C with
  | some ⟨_, _, .cls cd, _⟩ => C :: cd.ns :: fnAs g (gNs g cd.ns "__init__")
  | _ => []
def adK (g : Addr → Option Obj) : List Addr := mainGlobals :: cStatics :: sysModules :: (ensK.flatMap (fun x => clsAs g (gNs g mainGlobals x)) ++ defN.flatMap fun x => fnAs g (gNs g mainGlobals x))
abbrev AlK : Type := He.AlD × (List FnJ × Bool)
def obsK (K : PySem.W.Frag) : AlK := (He.obsD [] defK K, (ersT.map fun t => fnJ K (He.ma K (He.ga K t.1) "__init__"), exK K))
def valK : AlK := (He.valD defK, (ersT.map fun t => valJ t.2.1 (inClass (topK t.2.2) 0), true))
def hkK : PySem.W.Hook where
  α := AlK
  obs := fun s => obsK (He.frG s.heap.get? (adK s.heap.get?))
  val := fun _ => valK
  says := fun _ h => ∃ K : PySem.W.Frag, K.In h ∧ obsK K = valK
  of := fun _ _ e => ⟨_, He.frG_in, e⟩
  keeps := fun _ _ _ ⟨K, inK, c⟩ up => ⟨K, PySem.W.Frag.In.keeps inK up, c⟩
def obK (s : PySem.W.SharedT) : AlK := obsK (He.frG (HandSHeadRun.getT s) (adK (HandSHeadRun.getT s)))
theorem obK_eq (s : PySem.W.SharedT) : obK s = hkK.obs s.abs := by
  have e : HandSHeadRun.getT s = s.abs.heap.get? := funext (HandSHeadRun.getT_eq s)
  show obsK _ = obsK _
  rw [e]
def looseK : List Str := ensK ++ (["_law_mixed", "_law_draw", "_law_one_of", "_law_word", "_law_purse", "_law_purses", "_law_first", "_law_called", "_law_bare", "_law_code", "_law_is_error", "_law_right"] : List Str)
theorem runK (w : World) : HandSHeadRun.RunEq RK (PySem.W.view RK.prog [45]) hkK obK 20000 looseK w := by
  intro os
  kernel_rfl
end VL
/-! K01zi: k01's row holds. -/
namespace VL
open PySem L2 PyProof.Rows VE
section
variable {K : PySem.W.Frag} {h : Heap} {mg : Str → Option Value}
theorem glo_of (X : K.In h) (G : h.Ns mainGlobals mg) {x : Str} (c : gloB K x = true) : mg x = some (.ref (He.ga K x)) := PySem.W.mg_of X G (He.eqO_ok c)
structure ExK (K : PySem.W.Frag) : Prop where
  sm : (K.lookup sysModules).isSome = true
  th : PySem.W.nsIn K cStatics "thirdparty.any" = some none
  ers : ∀ t ∈ ersT, erB K filK (He.ga K t.1) (He.ma K (He.ga K t.1) "__init__") t.2.1 = true
  ens : ∀ x ∈ ensK, enB K x = true
  exb : ∀ x ∈ (["NothingToRedo", "NothingToUndo", "PostError"] : List Str), exB K x = true
  out : ∀ x ∈ outK, PySem.W.nsIn K mainGlobals x = some none
  dfs : ∀ x ∈ defN, gloB K x = true
theorem exK_ok (c : exK K = true) : ExK K := by
  obtain ⟨h1, c⟩ := b2 c
  obtain ⟨h2, c⟩ := b2 c
  obtain ⟨h3, c⟩ := b2 c
  obtain ⟨h4, c⟩ := b2 c
  obtain ⟨h5, c⟩ := b2 c
  obtain ⟨h6, h7⟩ := b2 c
  exact ⟨h1, He.eqO_ok h2, List.all_eq_true.mp h3, List.all_eq_true.mp h4, List.all_eq_true.mp h5, fun x hx => He.eqO_ok (List.all_eq_true.mp h6 x hx), List.all_eq_true.mp h7⟩
theorem obs_ex (c : obsK K = valK) : ExK K := exK_ok (congrArg (fun z : AlK => z.2.2) c)
theorem obs_fn (c : obsK K = valK) : ∀ t ∈ ersT, fnJ K (He.ma K (He.ga K t.1) "__init__") = valJ t.2.1 (inClass (topK t.2.2) 0) := fun t ht => by
  have e : ersT.map (fun t => fnJ K (He.ma K (He.ga K t.1) "__init__")) = ersT.map fun t => valJ t.2.1 (inClass (topK t.2.2) 0) := congrArg (fun z : AlK => z.2.1) c
  exact List.map_inj_left.mp e t ht
theorem obs_d (c : obsK K = valK) : He.SaysD [] defK K := congrArg (fun z : AlK => z.1) c
/-- each __init__ has the shape -/
theorem ini_of : ∀ t ∈ ersT, IniT t.2.1 (inClass (topK t.2.2) 0) := by
  intro t ht
  simp only [ersT, List.mem_cons, List.not_mem_nil, or_false] at ht
  rcases ht with rfl | rfl | rfl | rfl | rfl | rfl | rfl | rfl | rfl | rfl | rfl | rfl | rfl | rfl | rfl | rfl | rfl | rfl | rfl | rfl | rfl | rfl | rfl | rfl | rfl | rfl | rfl | rfl
  · exact ⟨⟨_, _, _, rfl⟩, ⟨_, _, _, _, _, _, _, _, _, rfl, rfl⟩, rfl, rfl, rfl, by decide +kernel, by decide +kernel, by decide +kernel, by decide +kernel, by decide +kernel⟩
  · exact ⟨⟨_, _, _, rfl⟩, ⟨_, _, _, _, _, _, _, _, _, rfl, rfl⟩, rfl, rfl, rfl, by decide +kernel, by decide +kernel, by decide +kernel, by decide +kernel, by decide +kernel⟩
  · exact ⟨⟨_, _, _, rfl⟩, ⟨_, _, _, _, _, _, _, _, _, rfl, rfl⟩, rfl, rfl, rfl, by decide +kernel, by decide +kernel, by decide +kernel, by decide +kernel, by decide +kernel⟩
  · exact ⟨⟨_, _, _, rfl⟩, ⟨_, _, _, _, _, _, _, _, _, rfl, rfl⟩, rfl, rfl, rfl, by decide +kernel, by decide +kernel, by decide +kernel, by decide +kernel, by decide +kernel⟩
  · exact ⟨⟨_, _, _, rfl⟩, ⟨_, _, _, _, _, _, _, _, _, rfl, rfl⟩, rfl, rfl, rfl, by decide +kernel, by decide +kernel, by decide +kernel, by decide +kernel, by decide +kernel⟩
  · exact ⟨⟨_, _, _, rfl⟩, ⟨_, _, _, _, _, _, _, _, _, rfl, rfl⟩, rfl, rfl, rfl, by decide +kernel, by decide +kernel, by decide +kernel, by decide +kernel, by decide +kernel⟩
  · exact ⟨⟨_, _, _, rfl⟩, ⟨_, _, _, _, _, _, _, _, _, rfl, rfl⟩, rfl, rfl, rfl, by decide +kernel, by decide +kernel, by decide +kernel, by decide +kernel, by decide +kernel⟩
  · exact ⟨⟨_, _, _, rfl⟩, ⟨_, _, _, _, _, _, _, _, _, rfl, rfl⟩, rfl, rfl, rfl, by decide +kernel, by decide +kernel, by decide +kernel, by decide +kernel, by decide +kernel⟩
  · exact ⟨⟨_, _, _, rfl⟩, ⟨_, _, _, _, _, _, _, _, _, rfl, rfl⟩, rfl, rfl, rfl, by decide +kernel, by decide +kernel, by decide +kernel, by decide +kernel, by decide +kernel⟩
  · exact ⟨⟨_, _, _, rfl⟩, ⟨_, _, _, _, _, _, _, _, _, rfl, rfl⟩, rfl, rfl, rfl, by decide +kernel, by decide +kernel, by decide +kernel, by decide +kernel, by decide +kernel⟩
  · exact ⟨⟨_, _, _, rfl⟩, ⟨_, _, _, _, _, _, _, _, _, rfl, rfl⟩, rfl, rfl, rfl, by decide +kernel, by decide +kernel, by decide +kernel, by decide +kernel, by decide +kernel⟩
  · exact ⟨⟨_, _, _, rfl⟩, ⟨_, _, _, _, _, _, _, _, _, rfl, rfl⟩, rfl, rfl, rfl, by decide +kernel, by decide +kernel, by decide +kernel, by decide +kernel, by decide +kernel⟩
  · exact ⟨⟨_, _, _, rfl⟩, ⟨_, _, _, _, _, _, _, _, _, rfl, rfl⟩, rfl, rfl, rfl, by decide +kernel, by decide +kernel, by decide +kernel, by decide +kernel, by decide +kernel⟩
  · exact ⟨⟨_, _, _, rfl⟩, ⟨_, _, _, _, _, _, _, _, _, rfl, rfl⟩, rfl, rfl, rfl, by decide +kernel, by decide +kernel, by decide +kernel, by decide +kernel, by decide +kernel⟩
  · exact ⟨⟨_, _, _, rfl⟩, ⟨_, _, _, _, _, _, _, _, _, rfl, rfl⟩, rfl, rfl, rfl, by decide +kernel, by decide +kernel, by decide +kernel, by decide +kernel, by decide +kernel⟩
  · exact ⟨⟨_, _, _, rfl⟩, ⟨_, _, _, _, _, _, _, _, _, rfl, rfl⟩, rfl, rfl, rfl, by decide +kernel, by decide +kernel, by decide +kernel, by decide +kernel, by decide +kernel⟩
  · exact ⟨⟨_, _, _, rfl⟩, ⟨_, _, _, _, _, _, _, _, _, rfl, rfl⟩, rfl, rfl, rfl, by decide +kernel, by decide +kernel, by decide +kernel, by decide +kernel, by decide +kernel⟩
  · exact ⟨⟨_, _, _, rfl⟩, ⟨_, _, _, _, _, _, _, _, _, rfl, rfl⟩, rfl, rfl, rfl, by decide +kernel, by decide +kernel, by decide +kernel, by decide +kernel, by decide +kernel⟩
  · exact ⟨⟨_, _, _, rfl⟩, ⟨_, _, _, _, _, _, _, _, _, rfl, rfl⟩, rfl, rfl, rfl, by decide +kernel, by decide +kernel, by decide +kernel, by decide +kernel, by decide +kernel⟩
  · exact ⟨⟨_, _, _, rfl⟩, ⟨_, _, _, _, _, _, _, _, _, rfl, rfl⟩, rfl, rfl, rfl, by decide +kernel, by decide +kernel, by decide +kernel, by decide +kernel, by decide +kernel⟩
  · exact ⟨⟨_, _, _, rfl⟩, ⟨_, _, _, _, _, _, _, _, _, rfl, rfl⟩, rfl, rfl, rfl, by decide +kernel, by decide +kernel, by decide +kernel, by decide +kernel, by decide +kernel⟩
  · exact ⟨⟨_, _, _, rfl⟩, ⟨_, _, _, _, _, _, _, _, _, rfl, rfl⟩, rfl, rfl, rfl, by decide +kernel, by decide +kernel, by decide +kernel, by decide +kernel, by decide +kernel⟩
  · exact ⟨⟨_, _, _, rfl⟩, ⟨_, _, _, _, _, _, _, _, _, rfl, rfl⟩, rfl, rfl, rfl, by decide +kernel, by decide +kernel, by decide +kernel, by decide +kernel, by decide +kernel⟩
  · exact ⟨⟨_, _, _, rfl⟩, ⟨_, _, _, _, _, _, _, _, _, rfl, rfl⟩, rfl, rfl, rfl, by decide +kernel, by decide +kernel, by decide +kernel, by decide +kernel, by decide +kernel⟩
  · exact ⟨⟨_, _, _, rfl⟩, ⟨_, _, _, _, _, _, _, _, _, rfl, rfl⟩, rfl, rfl, rfl, by decide +kernel, by decide +kernel, by decide +kernel, by decide +kernel, by decide +kernel⟩
  · exact ⟨⟨_, _, _, rfl⟩, ⟨_, _, _, _, _, _, _, _, _, rfl, rfl⟩, rfl, rfl, rfl, by decide +kernel, by decide +kernel, by decide +kernel, by decide +kernel, by decide +kernel⟩
  · exact ⟨⟨_, _, _, rfl⟩, ⟨_, _, _, _, _, _, _, _, _, rfl, rfl⟩, rfl, rfl, rfl, by decide +kernel, by decide +kernel, by decide +kernel, by decide +kernel, by decide +kernel⟩
  · exact ⟨⟨_, _, _, rfl⟩, ⟨_, _, _, _, _, _, _, _, _, rfl, rfl⟩, rfl, rfl, rfl, by decide +kernel, by decide +kernel, by decide +kernel, by decide +kernel, by decide +kernel⟩
theorem ers_names : ersK = ersT.map (·.1) := by decide +kernel
theorem fx_of (X : K.In h) (G : h.Ns mainGlobals mg) (c : obsK K = valK) : Fx RK.prog K mg := by
  have A := obs_ex c
  have nm : ∀ x ∈ ensK, mg x = some (.ref (He.ga K x)) := fun x hx => glo_of X G (b2 (A.ens x hx)).1
  have no : ∀ x ∈ outK, mg x = none := fun x hx => PySem.W.mg_none_of X G (A.out x hx)
  have at_ : ∀ {x : Str} {C : Addr}, ensK.contains x = true → mg x = some (.ref C) → C = He.ga K x ∧ enB K x = true := fun {x C} hx e => by
    have m := List.contains_iff_mem.mp hx
    rw [nm x m] at e
    cases e
    exact ⟨rfl, A.ens x m⟩
  have kit : ∀ {x : Str}, enB K x = true → ExcC K (He.ga K x) ∧ XfC K (He.ga K x) ∧ PySem.W.findIn K (.ref (He.ga K x)) "value" = some none ∧ kitB K (He.ga K x) x = true := fun {x} e => by
    obtain ⟨_, e⟩ := b2 e
    obtain ⟨e1, e⟩ := b2 e
    obtain ⟨e2, e⟩ := b2 e
    obtain ⟨e3, e4⟩ := b2 e
    exact ⟨ecB_ok e1, xfB_ok e2, He.eqO_ok e3, e4⟩
  refine ⟨A.sm, fun x hx => ?_, fun x hx => ?_, fun x hx => ?_, fun x hx C e => ?_, fun x hx => ?_⟩
  · rw [ers_names] at hx
    obtain ⟨t, ht, rfl⟩ := List.mem_map.mp hx
    obtain ⟨fd, T⟩ := er_ok (P := RK.prog) (mg := mg) (ini_of t ht) (A.ers t ht) (obs_fn c t ht) (no "super" (by decide +kernel)) (by kernel_rfl) A.th
    exact ⟨_, _, fd, T, nm t.1 ((show ∀ t ∈ ersT, t.1 ∈ ensK by decide +kernel) t ht)⟩
  · obtain ⟨e1, e2⟩ := b2 (A.exb x hx)
    exact ⟨_, e1, e2, nm x ((show ∀ x ∈ (["NothingToRedo", "NothingToUndo", "PostError"] : List Str), x ∈ ensK by decide +kernel) x hx)⟩
  · rcases List.mem_append.mp hx with hx | hx
    · refine ⟨.ref (He.ga K x), .ref (He.ga K x), rfl, fun u hu => hu, .inl ⟨nm x hx, (show ∀ x ∈ ensK, x ≠ "__debug__" by decide +kernel) x hx⟩, fun c' hc' C' e => ?_⟩
      obtain ⟨rfl, en⟩ := at_ hc' e
      obtain ⟨k1, _, _, k2⟩ := kit en
      exact ⟨k1, of_decide_eq_true (List.all_eq_true.mp (b2 k2).1 x hx)⟩
    · obtain rfl := List.mem_singleton.mp hx
      refine ⟨.ty "ValueError", .type "ValueError", rfl, fun u hu => hu, .inr ⟨no "ValueError" (by decide +kernel), by boot_by_name, by decide +kernel, by decide +kernel⟩, fun c' hc' C' e => ?_⟩
      obtain ⟨rfl, en⟩ := at_ hc' e
      obtain ⟨k1, _, _, k2⟩ := kit en
      exact ⟨k1, of_decide_eq_true (b2 k2).2⟩
  · obtain ⟨rfl, en⟩ := at_ hx e
    obtain ⟨_, k1, k2, _⟩ := kit en
    exact ⟨k1, k2⟩
  · exact no x ((show ∀ x ∈ (["all", "dict", "int", "isinstance", "len", "list", "max", "min", "range", "repr", "sum", "tuple"] : List Str), x ∈ outK by decide +kernel) x hx)
theorem dx_of (X : K.In h) (G : h.Ns mainGlobals mg) (c : obsK K = valK) : Dx K mg := by
  have A := obs_ex c
  have S := obs_d c
  exact {
    d33 := (fun ⟨fd, F⟩ => ⟨_, fd, F, glo_of X G (A.dfs "_law_mixed" (by decide +kernel))⟩) (S.def_ 0 (d := e33) rfl)
    d34 := (fun ⟨fd, F⟩ => ⟨_, fd, F, glo_of X G (A.dfs "_law_draw" (by decide +kernel))⟩) (S.def_ 1 (d := e34) rfl)
    d35 := (fun ⟨fd, F⟩ => ⟨_, fd, F, glo_of X G (A.dfs "_law_one_of" (by decide +kernel))⟩) (S.def_ 2 (d := e35) rfl)
    d36 := (fun ⟨fd, F⟩ => ⟨_, fd, F, glo_of X G (A.dfs "_law_word" (by decide +kernel))⟩) (S.def_ 3 (d := e36) rfl)
    d37 := (fun ⟨fd, F⟩ => ⟨_, fd, F, glo_of X G (A.dfs "_law_purse" (by decide +kernel))⟩) (S.def_ 4 (d := e37) rfl)
    d38 := (fun ⟨fd, F⟩ => ⟨_, fd, F, glo_of X G (A.dfs "_law_purses" (by decide +kernel))⟩) (S.def_ 5 (d := e38) rfl)
    d39 := (fun ⟨fd, F⟩ => ⟨_, fd, F, glo_of X G (A.dfs "_law_first" (by decide +kernel))⟩) (S.def_ 6 (d := e39) rfl)
    d40 := (fun ⟨fd, F⟩ => ⟨_, fd, F, glo_of X G (A.dfs "_law_called" (by decide +kernel))⟩) (S.def_ 7 (d := e40) rfl)
    d41 := (fun ⟨fd, F⟩ => ⟨_, fd, F, glo_of X G (A.dfs "_law_bare" (by decide +kernel))⟩) (S.def_ 8 (d := e41) rfl)
    d42 := (fun ⟨fd, F⟩ => ⟨_, fd, F, glo_of X G (A.dfs "_law_code" (by decide +kernel))⟩) (S.def_ 9 (d := e42) rfl)
    d43 := (fun ⟨fd, F⟩ => ⟨_, fd, F, glo_of X G (A.dfs "_law_is_error" (by decide +kernel))⟩) (S.def_ 10 (d := e43) rfl)
    d44 := (fun ⟨fd, F⟩ => ⟨_, fd, F, glo_of X G (A.dfs "_law_right" (by decide +kernel))⟩) (S.def_ 11 (d := e44) rfl)
    d45 := (fun ⟨fd, F⟩ => ⟨_, fd, F, glo_of X G (A.dfs "law" (by decide +kernel))⟩) (S.def_ 12 (d := e45) rfl)
  }
end
end VL
open PySem PySem.W PySem.Calls PyProof.Rows
theorem PySem.Challenge.cw_postways_k01_errors_made_holds : PySem.Challenge.rw_postways_k01_errors_made.Holds := by
  w_on; o_law
  refine HandSHeadRun.head_any (r := OpenLaw.row PySem.Challenge.rw_postways_k01_errors_made) (q := view (OpenLaw.row PySem.Challenge.rw_postways_k01_errors_made).prog [45]) (H := VL.hkK) (ob := VL.obK) (M := 20000) (loose := VL.looseK) (d := HandSHeadRun.topDef (OpenLaw.row PySem.Challenge.rw_postways_k01_errors_made).prog 45) (kwd := [])
    VL.obK_eq (by kernel_rfl) (fun s => by kernel_rfl) VL.runK (by kernel_rfl) (by kernel_rfl) (by kernel_rfl) (by rfl) (by first | assumption | decide +kernel) (by decide +kernel) ⟨rfl, rfl, rfl, rfl, rfl, by decide +kernel⟩ ?hw ?hc
  case hw => w_witness2
  case hc =>
    refine L2.walk_ofEG (l := PySem.Challenge.rw_postways_k01_errors_made) (n := 63) (k := 6) (x := "_law_script") (CX := L2.CX0) rfl (by decide) (by kernel_rfl) ⟨rfl, by decide, by decide⟩ ?F (fun _ _ _ _ z => z)
    intro w mg fa h Y G hmg0
    obtain ⟨K, KX, c⟩ := Y
    have E := VL.dx_of KX G c
    have D := VL.fx_of KX G c
    obtain ⟨f, fd, F, hm⟩ := E.d45
    have hmg : mg ("law" : PySem.Str) = some (.ref fa) := by
      have e : (HandSHeadRun.topDef (OpenLaw.row PySem.Challenge.rw_postways_k01_errors_made).prog 45).name = ("law" : PySem.Str) := by kernel_rfl
      rw [← e]
      exact hmg0
    rw [hmg] at hm
    cases hm
    have b := L2.FunD.bindsA (ps := ["_law_script"]) F fun _ _ _ _ _ _ us hl => match us, hl with | [_], _ => rfl
    exact ⟨K, fd, VL.spLaw K, KX, fun s v => b s [v] rfl, fun H a ns hl _ hS => ⟨a, ns, rfl, hS, hl, fun _ => rfl⟩, fun base _ _ => VL.ok_law D E F⟩
