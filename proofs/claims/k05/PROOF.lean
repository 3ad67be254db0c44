import PyProof.Rows.All
import Wide.All
import OpenK.AllK
import Wide.FinOn
import HandS.ForMost
import HandS.Exc
import HandS.Flow
import HandS.Wide
import HandS.TupAny
import HandS.Deep
import HandS.Zip
import HandS.Conv
import HandS.IsInst
import HandS.Head2
import HandS.HeadHook1
import HandS.HeadHook2
import HandS.EndBits
import HandS.WideBits
import HandS.Style
import HandS.HeadHook4
import HandS.HeadEnd
import HandS.ExcInit
import HandS.ExcIs
import HandS.ExcField
import HandS.Lambda
import KE.KExcSuper
import KE.KExcIs
import HandS.RaiseMore
import HandS.Flt
import HandS.Star
import PySem.Challenge.RW_ringsorways_k05_whole_the_same_moved_tur
set_option Elab.async false
set_option linter.all false
set_option maxRecDepth 100000
set_option maxHeartbeats 4000000
/-! Rh, part A: an error of the program's own is made: super().__init__(value); self.value = value. -/
namespace Rf
open PySem PySem.W PySem.Spec PySem.Calls PyProof.Rows L2

/-- the text of the __init__ -/
def initBody (q : Nat → Pos) : List Stmt :=
  [.Expr (.Call (.Attribute (.Call (.Name "super" (q 0)) [] [] (q 1)) "__init__" (q 2)) [.Name "value" (q 3)] [] (q 4)) (q 5), .Assign [.Attribute (.Name "self" (q 6)) "value" (q 7)] (.Name "value" (q 8)) (q 9)]
/-- what the written part says of it -/
structure InitC (P : Program) (K : PySem.W.Frag) (fI D cc cda : Addr) (fd : FuncData) : Prop where
  ex : ∃ (oc : Value) (od : Option Addr) (osl : Array (Option Value)) (nm qn : Str) (params : Arguments) (scope : Scope) (dV kV doc pm ct : Value) (an : Option Addr) (q : Nat → Pos) (ar : Arg), fd = ksFn nm qn params (initBody q) scope dV kV doc pm an (.ref cda) ct cc ∧
    K.lookup fI = some ⟨oc, od, .func fd, osl⟩ ∧ codeIn K (.ref cda) qn = true ∧ (params.posonlyargs ++ params.args).head? = some ar ∧ ar.arg = "self" ∧
    scope.kind = .function ∧ scope.isCoroutine = false ∧ scope.isGenerator = false ∧ (∀ x ∈ scope.names, x.2 ≠ .cell) ∧
    scope.names.lookup ("self" : Str) = some .local ∧ scope.names.lookup ("value" : Str) = some .local ∧ scope.names.lookup ("super" : Str) = some .globalImplicit ∧ scope.names.lookup ("__class__" : Str) = some .free ∧ ((q 2).endLine == (q 4).line) = true
  code : ∃ (ccl : Value) (cdd : Option Addr) (vs : Array Value) (ccs : Array (Option Value)) (file : Str) (tf : Tok), K.lookup cda = some ⟨ccl, cdd, .fields vs, ccs⟩ ∧ vs[2]? = some (.str file tf) ∧ ((P.main.file : Str) == file) = true
  cell : ∃ (cl : Value) (cld : Option Addr) (csl : Array (Option Value)), K.lookup cc = some ⟨cl, cld, .cell (some (.ref D)), csl⟩
  cls : ∃ cdD, clsIn K D = some cdD
  top : (P.main.scope.names.lookup ("super" : Str)).isSome = false
  opq : nsIn K cStatics "thirdparty.any" = some none
/-- what it says of a class that has this __init__ -/
structure ErrC (K : PySem.W.Frag) (D C : Addr) : Prop where
  oex : OexC K C
  sub : mroIn K C (.ref D) = some true
  sup : ks_superIn K C D "__init__" = some (some (.builtin "ValueError.__init__"))
  ve : subIn K (.ref C) (.type "ValueError") = some true
  noV : findIn K (.ref C) "value" = some none
section
variable {P : Program} {w : World} {A : Around} {K : PySem.W.Frag} {h : Heap} {g : Array GenState} {d : Drawn} {t : Nat} {os : OsState} {R : Result → Shared → Prop} {fI D cc cda a C t0 : Addr} {fd : FuncData} {u : Value} {mg mb : Str → Option Value}
theorem ldL0 {M : Model} {E : Value → Shared → Prop} {s : Shared} {env : Env} {m : Str → Option Value} {x : Str} {pos : Pos} {v : Value} {Q : Value → Shared → Prop} (hk : env.scope.kind = .function) (hl : env.kindOf x = some .local) (hn : s.heap.Ns env.locals m) (hv : m x = some v) (h : Q v s)
    (hd : (x == ("__debug__" : Str)) = false) : wpAny M A (eval (.Name x pos) env) Q E s := wpAny_Name (wpAny_loadName_local hk hl hn hv h) hd
theorem super_form {env : Env} {p0 p1 p2 p4 : Pos} {x : Str} {args : List Expr} (hl : (p2.endLine == p4.line) = true) (hf : methodCallForm (args.length + 0) (backTo p4 (starEach args env)) (backToKw p4 (keywordEach [] env)) = true) :
    eval (.Call (.Attribute (.Call (.Name "super" p0) [] [] p1) x p2) args [] p4) env = (do
      let ov ← attributeBase (.Call (.Name "super" p0) [] [] p1) x env (eval (.Call (.Name "super" p0) [] [] p1) env)
      standAt p2.atName
      let (f, first) ← holding [ov] (getMethod ov x (do return (← importBound (.Call (.Name "super" p0) [] [] p1) env).getD true))
      callWith p4 f first (backTo p4 (starEach args env)) []) := by
  show (do
    let ov ← attributeBase (.Call (.Name "super" p0) [] [] p1) x env (eval (.Call (.Name "super" p0) [] [] p1) env)
    standAt p2.atName
    methodCall (.Call (.Name "super" p0) [] [] p1) x p2 p4 env ov (args.length + 0) (backTo p4 (starEach args env)) (backToKw p4 (keywordEach [] env))) = _
  unfold methodCall
  rw [hf]
  unfold methodCallPos calleeOf
  rw [hl]
  rfl
theorem init_run (hroom : A.depth < recursionLimit) (hka : K.lookup a = none) (X : K.In h) (G : h.Ns mainGlobals mg) (B : h.Ns builtinsNs mb) (hmg : mg "super" = none) (hmb : mb "super" = some (.type "super")) (lim : h.NoLimit) (F : InitC P K fI D cc cda fd) (T : ErrC K D C)
    (hb : BindsTo ⟨h, g, d, t, os⟩ fd ⟨[.ref a, u], []⟩ [("self", .ref a), ("value", u)]) (he : h.get? a = some (PySem.HandSPX.excO C t0))
    (hR : ∀ h' t' t1 dx, (∀ b o, b ≠ a → h.get? b = some o → h'.get? b = some o) → h.objs.size ≤ dx → h'.get? a = some { cls := .ref C, dict := some dx, data := .fields #[.ref t1, .none, .none, .none, .bool false, .none] } → h'.Ns1 dx (fun y => if y = "value" then some u else none) → R (.ok (.ret .none)) ⟨h', g, d, t', os⟩) :
    codeAny (model P w) A (.call (.ref fI) ⟨[.ref a, u], []⟩) R ⟨h, g, d, t, os⟩ := by
  obtain ⟨oc, od, osl, nm, qn, params, scope, dV, kV, doc, pm, ct, an, q, ar, rfl, lk, hcd, hp, har, hk, hco, hgen, hcells, lself, lval, lsup, lcls, hline⟩ := F.ex
  obtain ⟨kind, names, _, ico, igen⟩ := scope
  dsimp only at hk hco hgen hcells lself lval lsup lcls
  subst hk
  obtain ⟨ccl, cdd, vs, ccs, file, tf, lcd, hvs, hfile⟩ := F.code
  obtain ⟨cl, cld, csl, lcc⟩ := F.cell
  obtain ⟨cdD, hD⟩ := F.cls
  obtain ⟨oD, hD1, hD2⟩ : ∃ oD, h.get? D = some oD ∧ oD.data = .cls cdD := by
    unfold clsIn at hD
    split at hD
    · rename_i c d cd' sl ho
      cases hD
      exact ⟨_, X _ _ ho, rfl⟩
    · cases hD
  obtain ⟨cnm, cq, N, bs, bm, sn, sub, ab, col, dd, k0, k1, k2, k3, k5, hC, hbm⟩ := T.oex.cls
  have hcl : PySem.W.clsIn K C = some { name := cnm, bases := bs, mro := .ref C :: bm, ns := N, qualname := cq, hasDict := true, slotNames := sn, subclasses := sub, abstract := ab, collection := col, hasDel := false } := by unfold PySem.W.clsIn; rw [hC] <;> rfl
  have hsup := T.sup
  unfold ks_superIn at hsup
  rw [hcl] at hsup
  have hsup : alongIn K "__init__" (((Value.ref C :: bm).dropWhile (· != .ref D)).drop 1) = some (some (.builtin "ValueError.__init__")) := hsup
  have haC : a ≠ C := fun z => by
    have e := X _ _ hC
    rw [← z, he] at e
    cases e
  refine ks_codeAny_call_defAt (fd := ksFn nm qn params (initBody q) _ dV kV doc pm an (.ref cda) ct cc) (body := initBody q) (binds := [("self", .ref a), ("value", u)]) hroom (X _ _ lk) rfl lim (codeRec_of X hcd) rfl hb hcells (fun x hx => ?_) (fun h₁ hns k1 => ?_) hco hgen rfl
  · simp only [List.mem_cons, List.not_mem_nil, or_false] at hx
    rcases hx with rfl | rfl
    · exact lself
    · exact lval
  have X1 : K.In h₁ := X.keeps k1
  have ns1 : h₁.Ns h.objs.size (fun x => ([("value", u), ("self", Value.ref a)] : List (Str × Value)).lookup x) := hns
  have me : h₁.get? a = some (PySem.HandSPX.excO C t0) := k1 _ _ he
  unfold initBody
  refine ks_wpAt_execs_cons (ks_wpAt_Expr_any (ks_wpAt_MethodCall (ks_wpAt_super_base (env := ksEnv qn _ h.objs.size fI (.ref cda) cc) (f := fI) lsup lcls (by decide) rfl (X1 _ _ lk) rfl hp rfl (X1 _ _ lcd) rfl hvs hfile F.top ?_) (super_form hline rfl)) (by rfl) (by rfl))
  · refine ks_loadName_global rfl lsup (loadGlobal_builtin (G.keeps k1) hmg (B.keeps k1) hmb ⟨rfl, ?_⟩)
    refine wpAny_loadName_free rfl lcls rfl ⟨_, X1 _ _ lcc, rfl⟩ ?_
    refine wpAny_loadName_local rfl (by rw [har]; exact lself) ns1 (by rw [har]; rfl) ?_
    refine ks_wpAny_isType_cls (k1 _ _ hD1) hD2 ⟨rfl, ?_⟩
    refine ks_wpAny_call_super (k1 _ _ hD1) hD2 me rfl (fun c e => by cases e) (looks_mroIn X1 T.sub) (fun h2 e2 k2 => ?_)
    have X2 : K.In h2 := X1.keeps k2
    have ns2 := ns1.keeps k2
    have me2 := k2 _ _ me
    refine kxs_getMethod kxs_ValueError e2 (looks_opaque X2 F.opq) (l₀ := .ref C :: bm) (fun A Q E s k z => wpAny_bind ((looks_clsIn X2 hcl) A _ E s k (wpAny_pure z))) rfl X2 hsup ((PySem.W.InstAt.type (od := none) ⟨me2, rfl, rfl, trivial⟩).andThen (looks_subIn X2 T.ve)) haC (by decide) ?_
    have k3 : ∀ b o, h2.get? b = some o → (h2.push (kxs_mw "ValueError.__init__" a)).get? b = some o := fun b o e => Heap.get?_push_of_some _ e
    have mu : (h2.push (kxs_mw "ValueError.__init__" a)).get? h2.objs.size = some (kxs_mw "ValueError.__init__" a) := Heap.get?_push_at rfl rfl
    have me3 := k3 _ _ me2
    have ns3 := ns2.keeps k3
    have X3 := X2.keeps k3
    refine kxs_callWith (i := "ValueError.__init__") (x := a) rfl (evalArgs_plain ?_)
    refine Calls.spliced_cons (ldL0 rfl lval ns3 rfl ?_ (by decide))
    refine Calls.spliced_nil ⟨mu, ?_⟩
    refine wpAny_call (codeAny_of_tree ?_)
    show wpAny _ _ (callAny (.ref h2.objs.size) ⟨[u], []⟩) _ _ _
    simp only [callAny]
    refine wpAny_bind (wpAny_load mu ?_)
    simp only [kxs_mw, show (Value.type "method-wrapper" == Value.type "method" || Value.type "method-wrapper" == Value.type "builtin_function_or_method" || Value.type "method-wrapper" == Value.type "method-wrapper") = true by decide, if_true]
    refine KFB.if_so (by decide) ?_
    refine wpAny_bind (check_bound_init PySem.F.excBase_ValueError.toExcCallFacts (X3 _ _ hC) me3 rfl ?_)
    refine wpAny_bind (wpAny_pure (wpAny_pure ?_))
    refine ⟨plainId_quiet PySem.F.excBase_ValueError.init.plain _, codeAny_builtin PySem.F.excBase_ValueError.initEntry ?_⟩
    refine exc_init_tree (cls := .ref C) (t0 := t0) (dv := none) (c2 := .none) (c3 := .none) (b4 := .bool false) me3 (by show 1 ≤ sizeLine; rw [sizeLine_eq]; omega) (fun h4 k4 me4 mt4 => ?_)
    have kk : ∀ b o, b ≠ a → h.get? b = some o → h4.get? b = some o := fun b o n e => k4 b o n (k3 _ _ (k2 _ _ (k1 _ _ e)))
    have X4 : K.In h4 := fun b o e => by
      by_cases hb : b = a
      · rw [hb, hka] at e
        cases e
      · exact kk b o hb (X b o e)
    have ns4 : h4.Ns h.objs.size (fun x => ([("value", u), ("self", Value.ref a)] : List (Str × Value)).lookup x) := by
      obtain ⟨o, es, ep, e1, e2⟩ := ns3
      exact ⟨o, es, ep, k4 _ _ (fun z => Nat.lt_irrefl _ (Nat.lt_of_le_of_lt (Nat.le_of_eq z) (Heap.lt_size he))) e1, e2⟩
    have lt : h.objs.size ≤ h4.objs.size := by
      obtain ⟨o, _, _, e1, _⟩ := id ns4
      exact Nat.le_of_lt (Heap.lt_size e1)
    refine ks_wpAt_execs_cons (ks_wpAt_Assign_Attr (_root_.PySem.wpAt_of_wpAny (ldL0 rfl lval ns4 rfl ?_ (by decide))) (by rfl))
    refine ldL0 rfl lself ns4 rfl ?_ (by decide)
    refine PySem.W.set_plain X4 (ox := { cls := .ref C, dict := none, data := .fields #[.ref (h2.push (kxs_mw "ValueError.__init__" a)).objs.size, .none, .none, .none, .bool false, .none] }) (od := none) ⟨me4, rfl, rfl, trivial⟩ T.oex.sa ?_
    refine PySem.HandSPX.exc_osa X4 me4 hcl (show PySem.HandSPX.refsVE (.ref C :: bm) = true from hbm) rfl T.noV (fun h5 tk dx k5 dn dne hx hn => ?_)
    refine _root_.PySem.wpAt_of_wpAny (wpAny_execs_nil ?_)
    exact hR h5 tk _ dx (fun b o n e => k5 b o n (kk b o n e)) (Nat.le_trans lt dn) hx hn
end
/-! ### X(e) of such a class -/
section
variable {X : Cx} {x : Str} {e : Expr} {te : TE} {p pos : Pos} {C fI D cc cda : Addr} {fd : FuncData}
theorem pmk_err (T : ErrC X.K D C) (F : InitC X.prog X.K fI D cc cda fd) (iC : findIn X.K (.ref C) "__init__" = some (some (.ref fI))) (tI : typeIn X.K (.ref fI) = some (.type "function")) (hb : L2.Binds X.K fd ["self", "value"] []) (hr : Room 2 X.A)
    (hg : Gl X x) (hm : X.mg x = some (.ref C)) (hsup : X.mg "super" = none) (he : PE X e te) (hs : starEach [e] X.env = (false, eval e X.env) :: starEach [] X.env) (hdb : (x == ("__debug__" : Str)) = false) :
    PMk X (.Call (.Name x p) [e] [] pos) (fun σ H Q => te σ H fun v H1 => ∀ dx, H1 dx = none → Q (.ref C) (some dx) (upd H1 dx (.xd [("value", v)]))) := by
  intro pins s σ H Q I h
  obtain ⟨nm, q, N, bs, bm, sn, sub, ab, col, dd, k0, k1, k2, k3, k5, hC, hbm⟩ := T.oex.cls
  refine wpAny_Call_Name_kw (ld_glob I hg hm ?_ hdb)
  refine PySem.W.callWith_K (h₀ := X.base) I.ok.mod.kin T.oex.kC ?_ hs (by rfl)
  rw [hs]
  show wpAny _ _ (spliced ((false, eval e X.env) :: backTo pos (starEach [] X.env))) _ _ s
  refine Calls.spliced_cons (thn (he.run pins s σ H _ I h) fun u s1 ⟨v, H1, I1, r1, q1⟩ => ?_)
  refine Calls.spliced_nil ⟨I1.kIn, ?_⟩
  show wpAny _ _ (call (.ref C) [u]) _ _ _
  obtain ⟨hp, g, dr, tk, os⟩ := s1
  have hsz : hp.objs.size ≤ hp.objs.size + 1 := Nat.le_succ _
  have hn : H1 (hp.objs.size + 1) = none := I1.hok.fresh hsz
  have kk : ∀ b o, hp.get? b = some o → ((hp.push (PySem.W.kdv_tup [u])).push (PySem.HandSPX.excO C hp.objs.size)).get? b = some o := fun b o e => Heap.get?_push_of_some _ (Heap.get?_push_of_some _ e)
  have hget : ((hp.push (PySem.W.kdv_tup [u])).push (PySem.HandSPX.excO C hp.objs.size)).get? (hp.objs.size + 1) = some (PySem.HandSPX.excO C hp.objs.size) := by heap_get
  have I2 : Inv X pins σ (upd H1 (hp.objs.size + 1) (exo (hp.objs.size + 1) C none)) ⟨(hp.push (PySem.W.kdv_tup [u])).push (PySem.HandSPX.excO C hp.objs.size), g, dr, tk, os⟩ :=
    I1.laid (t' := tk) (a := hp.objs.size + 1) (o := exo (hp.objs.size + 1) C none) (h' := (hp.push (PySem.W.kdv_tup [u])).push (PySem.HandSPX.excO C hp.objs.size)) kk hsz (exo_ok hget)
  obtain ⟨mb, hmb1, hmb2⟩ := I2.mod.blt
  refine wpAny_call (PySem.HandSPX.call_own PySem.F.excBase_ValueError (fun Y => PySem.HandSPX.refsVE_contains Y bm hbm) (I1.kIn _ _ hC) (PySem.W.looks_findIn I1.kIn iC) (fun self => PySem.W.bind_fn I1.kIn self tI) (by show 1 ≤ sizeLine; rw [sizeLine_eq]; omega) ?_)
  have nhp : ∀ {b : Addr} {o : Obj}, hp.get? b = some o → b ≠ hp.objs.size + 1 := fun {b o} z => Nat.ne_of_lt (Nat.lt_of_lt_of_le (Heap.lt_size z) hsz)
  have hka : X.K.lookup (hp.objs.size + 1) = none := by
    cases z : X.K.lookup (hp.objs.size + 1) with
    | none => rfl
    | some o => exact absurd rfl (nhp (I1.kIn _ _ z))
  refine init_run (hr.make C [u] []).depth hka I2.kIn (I2.mod.glob.keeps I2.bk) (hmb1.keeps I2.bk) hsup ((hmb2 "super" (by decide)).trans (by kernel_rfl)) I2.nolimit F T (hb _ [.ref (hp.objs.size + 1), u] I2.kIn rfl) hget (fun h' t' t1 dx k5 dn hx hns => ⟨rfl, ?_⟩)
  have hsz2 : ((hp.push (PySem.W.kdv_tup [u])).push (PySem.HandSPX.excO C hp.objs.size)).objs.size ≤ dx := dn
  have hnd : upd H1 (hp.objs.size + 1) (exo (hp.objs.size + 1) C none) dx = none := I2.hok.fresh hsz2
  have ea0 : upd H1 (hp.objs.size + 1) (exo (hp.objs.size + 1) C none) (hp.objs.size + 1) = some (exo (hp.objs.size + 1) C none) := upd_same
  have hda : dx ≠ hp.objs.size + 1 := fun z => ne_of_none ea0 hnd z.symm
  have hd1 : H1 dx = none := by rw [upd_ne hda] at hnd; exact hnd
  -- the two abstract heaps about the call of the __init__
  have unA : ∀ b, b ≠ hp.objs.size + 1 → upd H1 (hp.objs.size + 1) (exo (hp.objs.size + 1) C none) b = H1 b := fun b hb => upd_ne hb
  generalize eHA : upd H1 (hp.objs.size + 1) (exo (hp.objs.size + 1) C none) = HA at *
  obtain ⟨HB, eHB⟩ : ∃ HB : Hp, HB = upd (upd HA dx (exd dx [("value", v)])) (hp.objs.size + 1) (exo (hp.objs.size + 1) C (some dx)) := ⟨_, rfl⟩
  have nd : ∀ {b : Addr} {o : Obj}, ((hp.push (PySem.W.kdv_tup [u])).push (PySem.HandSPX.excO C hp.objs.size)).get? b = some o → b ≠ dx := fun {b o} q => Nat.ne_of_lt (Nat.lt_of_lt_of_le (Heap.lt_size q) hsz2)
  have na : ∀ {b : Addr}, HA b = none → b ≠ hp.objs.size + 1 := fun {b} n z => by
    rw [z] at n
    cases ea0.symm.trans n
  have un : Un (frs X.stack) [] HA HB ((hp.push (PySem.W.kdv_tup [u])).push (PySem.HandSPX.excO C hp.objs.size)) h' := {
    keep := fun b o q n _ _ => k5 b o (na n) q
    slot := fun b o q n _ _ => ⟨o.slots, k5 b o (na n) q⟩
    free := fun b o q n _ => by rw [eHB, upd_ne (na n), upd_ne (nd q)]; exact n
    there := fun b o q _ => by
      by_cases hb : b = hp.objs.size + 1
      · exact ⟨_, by rw [hb]; exact hx⟩
      · exact ⟨o, k5 b o hb q⟩
    tups := fun b xs q => by rw [eHB, upd_ne (at_ne ea0 q exo_tup), upd_ne (ne_of_none q hnd)]; exact q
    frzs := fun b o z q => by rw [eHB, upd_ne (at_ne ea0 q exo_frz), upd_ne (ne_of_none q hnd)]; exact q
    tbls := fun b ps q => ⟨#[], by rw [eHB, upd_ne (at_ne ea0 q exo_tbl), upd_ne (ne_of_none q hnd), q]; simp⟩ }
  have hok : HOk X.prog X.w HB h' := fun b o q => by
    rw [eHB] at q
    by_cases hb : b = hp.objs.size + 1
    · rw [hb, upd_same] at q
      cases q
      rw [hb]
      exact exo_ok hx
    · rw [upd_ne hb] at q
      by_cases hd : b = dx
      · rw [hd, upd_same] at q
        cases q
        rw [hd]
        exact L2.exd_ok hns (relO_put (fs := []) (mA := fun _ => none) r1 fun g => True.intro)
      · rw [upd_ne hd] at q
        refine (I2.hok b o q).stay (fun c z hc y => k5 c z ?_ y) (fun c hc => ?_) (fun c xs hc => ?_)
        · rcases hc with hc | hc
          · rw [hc]; exact hb
          · exact at_ne ea0 hc exo_own
        · rw [eHB, upd_ne (at_ne ea0 hc exo_own), upd_ne (ne_of_none hc hnd)]; exact hc
        · rw [eHB, upd_ne (at_ne ea0 hc exo_tup), upd_ne (ne_of_none hc hnd)]; exact hc
  have eB : HB (hp.objs.size + 1) = some (exo (hp.objs.size + 1) C (some dx)) := by rw [eHB, upd_same]
  have eD : HB dx = some (exd dx [("value", v)]) := by rw [eHB, upd_ne hda, upd_same]
  have eq : upd (L2.del HB (hp.objs.size + 1)) dx (.xd [("value", v)]) = upd H1 dx (.xd [("value", v)]) := by
    funext b
    by_cases hd : b = dx
    · rw [hd, upd_same, upd_same]
    · rw [upd_ne hd, upd_ne hd]
      by_cases hb : b = hp.objs.size + 1
      · rw [hb, del_same, hn]
      · rw [del_ne hb]
        rw [eHB, upd_ne hb, upd_ne hd, unA b hb]
  subst eHA
  refine mk_end (raises_own T.oex.exC T.oex.tyC) I1 hsz kk un hok rfl I1.bare eB eD hd1 ?_
  rw [eq]
  exact q1 dx hd1
end
end Rf


set_option Elab.async false
set_option linter.all false
set_option maxRecDepth 100000
set_option maxHeartbeats 4000000
/-! Rh, part B: a caught error is held. -/
namespace Rf
open PySem PySem.Spec PyProof.Rows L2
/-- at a: an error of the class cls, its dict at dx, as long as it lives -/
def ErrO (cls : Value) (dx : Option Addr) (a : Addr) : HO := .ext fun h => ∃ (oe : Obj) (vs : Array Value), h.get? a = some oe ∧ Zc cls dx oe ∧ oe.data = .fields vs
theorem errO_ok {P : Program} {w : World} {H : Hp} {h : Heap} {cls : Value} {dx : Option Addr} {a : Addr} {oe : Obj} {vs : Array Value} (e : h.get? a = some oe) (z : Zc cls dx oe) (d : oe.data = .fields vs) : ObjOk P w H h a (ErrO cls dx a) :=
  ⟨⟨oe, vs, e, z, d⟩, ⟨oe, e⟩, fun _ _ ⟨o, v, q, r⟩ k => ⟨o, v, k o q, r⟩⟩
theorem errO_at {P : Program} {w : World} {H : Hp} {h : Heap} {cls : Value} {dx : Option Addr} {a b : Addr} (x : ObjOk P w H h b (ErrO cls dx a)) : ∃ (oe : Obj) (vs : Array Value), h.get? a = some oe ∧ Zc cls dx oe ∧ oe.data = .fields vs := x.1
section
variable {X : Cx} {pins : List (Addr × Obj)} {σ : L2.St} {H : Hp} {s : Shared}
/-- an object that was not there at the entry is tracked from now on -/
theorem Inv.track {a : Addr} {o : HO} {oe : Obj} (I : L2.Inv X pins σ H s) (h0 : X.s_0.heap.get? a = none) (hn : H a = none) (ha : s.heap.get? a = some oe) (hc : ∀ v, oe.data ≠ .cell v) (nL : a ≠ X.env.locals) (np : ∀ p ∈ X.pn ++ pins, p.1 ≠ a) (ok : ObjOk X.prog X.w (upd H a o) s.heap a o) : L2.Inv X pins σ (upd H a o) s := by
  have n0 : ∀ b u, X.s_0.heap.get? b = some u → b ≠ a := fun b u e z => by rw [z, h0] at e; cases e
  have hne : ∀ b u, H b = some u → b ≠ a := fun b u e => ne_of_none e hn
  refine ⟨I.ok, I.os, I.bare, ⟨I.base.keep, I.base.slot, fun b u e n hx => by rw [upd_ne (n0 b u e)]; exact I.base.free b u e n hx, I.base.there, fun b xs e => ?_, fun b u v e => ?_, fun b ps e => ?_⟩, I.loc, I.cell, ?_, fun x c e => ?_, fun p hp => ?_, fun b u e => ?_, I.len⟩
  · have z := I.base.tups b xs e
    rw [upd_ne (hne _ _ z)]; exact z
  · have z := I.base.frzs b u v e
    rw [upd_ne (hne _ _ z)]; exact z
  · obtain ⟨m, z⟩ := I.base.tbls b ps e
    exact ⟨m, by rw [upd_ne (hne _ _ z)]; exact z⟩
  · rw [upd_ne nL.symm]; exact I.free
  · rw [upd_ne fun z => ?_]
    · exact I.freeC x c e
    · obtain ⟨v, oc, e1, e2⟩ := I.cell x c e
      rw [z, ha] at e1
      cases e1
      exact hc _ e2
  · obtain ⟨e1, e2, e3⟩ := I.pin p hp
    exact ⟨e1, by rw [upd_ne (np p hp)]; exact e2, e3⟩
  · by_cases hb : b = a
    · subst hb
      rw [upd_same] at e
      cases e
      exact ok
    · rw [upd_ne hb] at e
      exact (I.hok b u e).stay (fun _ _ _ q => q) (fun c q => by rw [upd_ne (hne _ _ q)]; exact q) fun c xs q => by rw [upd_ne (hne _ _ q)]; exact q
end
/-! ### try: body / except x as n: suite, the error held from then on -/
/-- the wish: every error of the body is one of x's -/
def wHeld (K : PySem.W.Frag) (c : Value) (i : Nat) (ts : Addr → Value → Option Addr → TS) (D : Ends) : WX := fun cls d σ H =>
  PySem.W.exmOne K cls c = some true ∧ ∀ a, H a = none → ts a cls d { nx := fun σ' H' => D.nx (σ'.set i none) (upd H' a (ErrO cls d a)), rt := fun _ _ => False } (σ.set i (some (.ref a))) H
section
variable {X : Cx} {x n : Str} {c : Value} {i : Nat} {body suite : List Stmt} {b₀ : Stmt} {np pos pos' : Pos} {tb : WX → TS} {ts : Addr → Value → Option Addr → TS}
theorem ps_try_held (hs : X.stack = X.env :: X.outer) (hf : X.env.frame = some X.env.locals) (hex : X.ex = []) (hN : X.N.Nodup) (hi : X.N[i]? = some n) (hln : X.env.kindOf n = some .local) (hc : Names X x c)
    (hb : ∀ (W : WX) (pn : List (Addr × Obj)) (xe : Value → Shared → Prop), Takes (X.tr pn xe) W → PassesOwn (model X.prog X.w) X.A X.env xe → PSs (X.tr pn xe) body (tb W))
    (hsu : ∀ (a : Addr) (oe : Obj) (cls : Value) (d : Option Addr) (pn : List (Addr × Obj)), Zc cls d oe → (∃ vs, oe.data = .fields vs) → PSs (X.suite a ((a, oe) :: pn)) (b₀ :: suite) (ts a cls d)) :
    PS X (.Try body [.ExceptHandler (some (.Name x np)) (some n) (b₀ :: suite) pos'] [] [] pos) (fun D σ H => tb (wHeld X.K c i ts D) D σ H) := by
  refine ⟨fun pins s σ H D I h => ?_⟩
  have ok := I.ok
  have hfr : X.A.frames = some (X.env :: X.outer) := by rw [ok.frames, hs]
  refine wpAny_Try_except (wpAny_mono ((hb (wHeld X.K c i ts D) (X.pn ++ pins) (fun e s₁ => wpAny (model X.prog X.w) X.A (noteFrame e X.env) (fun _ s₂ => wpAny (model X.prog X.w) X.A (setFlight e none) (fun _ s₃ =>
    wpAny (model X.prog X.w) X.A (handleBy e X.env [.ExceptHandler (some (.Name x np)) (some n) (b₀ :: suite) pos']) (SP X pins D) X.xe s₃) X.xe s₂) X.xe s₁) (fun u s1 flown => ?_) PassesOwn.looking).run [] s σ H D (I.toTry _) h) (fun f s1 q => ?_) fun _ _ z => z)
  · obtain ⟨a, B, sI, pins', σ1, H1, cls, d, rfl, J0, nb, up, sky, na, os, ag, hm, wish⟩ := flown
    have J : L2.Inv X pins σ1 H1 sI := J0.ofTry ok
    have sky1 : Sky B (X.env :: X.outer) a (Zc cls d) X.env.locals s1.heap := by rw [← hs]; exact sky
    show wpAny (model X.prog X.w) X.A (noteFrame (.ref a) X.env) _ _ _
    refine Sky.land Zc.steady hfr hf sky1 fun h3 fl3 up3 => ?_
    -- the error is no frame, and was not there at the entry
    have off : ∀ {g : Heap}, HandSPX.FlyingZ B (X.env :: X.outer) a (Zc cls d) g → a ∉ frs (X.env :: X.outer) := fun {g} fl hm => by
      obtain ⟨o, vs, e1, _, e3⟩ := fl.there
      obtain ⟨_, o', e', hnf⟩ := fl.2.2.1.mem hm
      rw [e1] at e'
      cases e'
      exact hnf _ e3
    have nfr := off fl3
    have gI : sI.heap.get? a = none := by
      cases z : sI.heap.get? a with
      | none => rfl
      | some o =>
        have y := nb a o z (by rw [show (X.tr _ _).stack = X.env :: X.outer from hs]; exact nfr)
        have y2 := fl3.2.1
        rw [y2] at y
        cases y
    have g0 : X.s_0.heap.get? a = none := by
      cases z : X.s_0.heap.get? a with
      | none => rfl
      | some o =>
        obtain ⟨o', y⟩ := J.base.there a o z (by rw [hex]; exact fun q => nomatch q)
        rw [gI] at y
        cases y
    have nP : ∀ p ∈ X.pn ++ pins, p.1 ≠ a := fun p hp z => by
      have y := (J.pin p hp).1
      rw [z, gI] at y
      cases y
    have nL : a ≠ X.env.locals := fun z => nfr (List.mem_filterMap.mpr ⟨X.env, List.mem_cons_self, by rw [hf, z]⟩)
    have nF : a ∉ X.fs := fun hm => by
      obtain ⟨e, he, q⟩ := List.mem_filterMap.mp hm
      exact nfr (List.mem_filterMap.mpr ⟨e, List.mem_cons_of_mem _ he, q⟩)
    obtain ⟨oe3, vs3, he3, hz3, hd3⟩ := fl3.there
    have S3 := (J.landed nb fl3.1 (up.trans up3) os ag : L2.Inv X pins σ1 H1 { s1 with heap := h3 }).suite he3 hd3 na nL nF
    refine wpAny_handleBy_cons (codeAny_handlers_test ?_) (by intro q; cases q)
    have LT : PySem.W.Looks (model X.prog X.w) h3 (typeOf (.ref a)) cls := fun A Q E s k q => wpAny_typeOf_ref (k _ _ he3) (by rw [hz3.1]; exact q)
    have LM := PySem.W.exm_one (M := model X.prog X.w) S3.kIn LT hm
    have named : ∀ {Q : Value → Shared → Prop} {E : Value → Shared → Prop}, Q c { s1 with heap := h3 } → wpAny (model X.prog X.w) (X.A.mark (some (.ref a))) (eval (.Name x np) X.env) Q E { s1 with heap := h3 } := fun {Q E} q => by
      obtain ⟨hg, hdbg, hm | ⟨hm, hv, hnn⟩⟩ := hc
      · exact ld_glob (X := X.suite a ((a, oe3) :: (X.pn ++ pins))) S3 hg hm q hdbg
      · exact ld_blt (X := X.suite a ((a, oe3) :: (X.pn ++ pins))) S3 hg hm hv q hnn hdbg
    refine named (LM.here ?_)
    refine codeAny_handlers_suite_as (HandSPX.lands_againZ fl3 fun h4 fl4 up4 => ?_)
    obtain ⟨oe4, vs4, he4, hz4, hd4⟩ := fl4.there
    have S4 := (J.landed nb fl4.1 ((up.trans up3).trans up4) os ag : L2.Inv X pins σ1 H1 { s1 with heap := h4 }).suite he4 hd4 na nL nF
    refine store_ok (X := X.suite a ((a, oe4) :: (X.pn ++ pins))) (v := .ref a) S4 hN hi (.inl hln) rfl (fun s5 S5 => ?_) (.inr hln)
    refine wpAny_mono ((hsu a oe4 cls d (X.pn ++ pins) hz4 ⟨_, hd4⟩).run [] s5 _ H1 _ S5 (wish a na)) (fun f s6 q => ?_) fun _ _ z => False.elim z
    cases f with
    | next =>
      obtain ⟨σ6, H6, S6, q6⟩ := q
      obtain ⟨e6, n6, _⟩ := S6.pin (a, oe4) (List.mem_append_left _ List.mem_cons_self)
      have J6 := Inv.track (o := ErrO cls d a) (S6.unsuite ok) g0 n6 e6 (fun v z => by
        have z' : oe4.data = .cell v := z
        rw [hd4] at z'; cases z') nL nP (errO_ok e6 hz4 hd4)
      exact gone_ok J6 hN hi hln fun s7 J7 => ⟨_, _, J7, q6⟩
    | ret u =>
      obtain ⟨_, _, _, _, _, z⟩ := q
      exact False.elim z
    | brk =>
      obtain ⟨_, _, _, z⟩ := q
      exact False.elim z
    | cont =>
      obtain ⟨_, _, _, z⟩ := q
      exact False.elim z
  · cases f with
    | next =>
      obtain ⟨σ', H', J', q⟩ := q
      exact wpAny_execs_nil ⟨σ', H', J'.ofTry ok, q⟩
    | brk =>
      obtain ⟨σ', H', J', q⟩ := q
      exact ⟨σ', H', J'.ofTry ok, q⟩
    | cont =>
      obtain ⟨σ', H', J', q⟩ := q
      exact ⟨σ', H', J'.ofTry ok, q⟩
    | ret u =>
      obtain ⟨v, σ', H', J', r, q⟩ := q
      exact ⟨v, σ', H', J'.ofTry ok, r, q⟩
end
end Rf


set_option Elab.async false
set_option linter.all false
set_option maxRecDepth 100000
set_option maxHeartbeats 4000000
/-! Rh, part C: the def that hears: (the error, what is told). -/
namespace Rf
open PySem PySem.Spec PyProof.Rows L2 LamX
def swB : Expr → Expr → Bool
  | .Tuple ts _ _, .Tuple vs _ _ => !(ts.length == 2 || ts.length == 3) || vs.all (foldedForSure 8)
  | .Tuple _ _ _, _ => true
  | _, _ => false
theorem swB_sole {t v : Expr} (h : swB t v = true) (l : Nat) (env : Env) : swapsWithSole [t] v l env = pure false := by
  cases t with
  | Tuple ts k p =>
    show swapsWith v (some (.Tuple ts k p)) l env = pure false
    cases v <;> rfl
  | _ => cases h
theorem swB_none {t v : Expr} (h : swB t v = true) (env : Env) : swappedStores [t] v env = pure none := by
  cases t with
  | Tuple ts k p =>
    cases v with
    | Tuple vs k2 p2 =>
      unfold swB at h
      unfold swappedStores
      rcases Bool.or_eq_true_iff.mp h with z | z
      · simp only [z, Bool.true_or, if_true]
      · simp only [z, if_true]
        split
        · rfl
        · split
          · rfl
          · split
            · rfl
            · rfl
    | _ => rfl
  | _ => cases h
/-! ### a lambda that may raise, called by the def that got it: the wish knows the slots at the call -/
/-- the context of the def that got the lambda, its own wish left open -/
abbrev gotCx (X : Cx) (Ng : List Str) (x : Str) (sg : Scope) (g : Addr) (cdg : Value) (s : Shared) (H : Hp) : Cx := cxOf C8.CX0 X.prog X.w X.K X.mg X.base Ng x sg g cdg X.A X.stack s H C8.E0
section
variable {X : Cx} {pins : List (Addr × Obj)} {σ : L2.St} {H : Hp} {s : Shared}
theorem pe_act2 {Ng : List Str} {qg : Str} {sg : Scope} {g f c' : Addr} {cdg pm ctv : Value} {params : Arguments} {body : Expr} {scope : Scope} {k i : Nat} {a : Str} {pn : List (Addr × Obj)} {xe : Value → Shared → Prop} {W : WX} {E : XK} {tb : TE} {p1 p2 : Pos}
    (I : L2.Inv X pins σ H s) (L : LamS X.env.scope scope) (hf : s.heap.get? f = some (PySem.W.kla_obj "<lambda>" (X.env.qual ++ "<lambda>") params body scope (cloFrom X.env.cells scope.names []) pm c' ctv)) (hfn : H f = none) (hfr : f ∉ frs X.stack)
    (hbind : bindArgs (PySem.W.kla_fn "<lambda>" (X.env.qual ++ "<lambda>") params body scope (cloFrom X.env.cells scope.names []) pm (.ref c') ctv) ⟨[], []⟩ = pure []) (tk : Takes ((gotCx X Ng qg sg g cdg s H).tr pn xe) W) (hr : Room (k + 1) (X.A.deeper (envOfC qg sg s.heap.objs.size g cdg)))
    (hbody : ∀ (A : Around) (outer : List Env) (s : Shared) (H : Hp), A.guards = X.A.guards → Room k (A.deeper (lamEnv X scope s.heap.objs.size f c')) → PE (lamCx X A outer s H E scope f c') body tb)
    (hN : Ng[i]? = some a) (hv : Vis sg a) (hd : (a == ("__debug__" : Str)) = false := by decide) (hcd : (a == ("__classdict__" : Str)) = false := by decide) :
    PE ((gotCx X Ng qg sg g cdg s H).tr pn xe) (.Call (.Name a p1) [] [] p2)
      (fun σZ HZ Q => σZ[i]? = some (some (.ref f)) ∧ HZ c' = some (CodeO c' (X.env.qual ++ "<lambda>")) ∧ (∀ cls d H', E cls d H' → W cls d σZ H') ∧ tb σ HZ Q) := by
  refine ⟨fun pZ sZ σZ HZ Q IZ ⟨hs, hc, hW, ht⟩ => ?_⟩
  refine wpAny_Call_Name_kw (thn ((pe_var (pos := p1) (i := i) hN hv hd hcd).run pZ sZ σZ HZ (fun v H1 => v = .ref f ∧ H1 = HZ) IZ ⟨.ref f, hs, rfl, rfl⟩) fun u s1 ⟨v, H1, I1, r1, q1⟩ => ?_)
  obtain ⟨rfl, rfl⟩ := q1
  obtain rfl : u = Value.ref f := r1
  have un : Un (frs X.stack) [] H H1 s.heap s1.heap := I1.base
  have of1 := un.keep f _ hf hfn hfr (by simp)
  obtain ⟨⟨oc, vs, t, hoc, hdc, hvc⟩, _, _⟩ := I1.hok c' _ hc
  refine PySem.W.callWith_F0 ⟨_, _, _, _, of1⟩ ?_
  refine wpAny_call (codeAny_mono (R := CR (L2.CX X.prog X.w) (envOfC qg sg s.heap.objs.size g cdg :: X.stack) X.prog X.w H1 s1 Q E) ?_ fun r s' hq => ?_)
  · show codeAny (model X.prog X.w) (X.A.deeper (envOfC qg sg s.heap.objs.size g cdg)) (.call (.ref f) ⟨[], []⟩) _ _
    refine PySem.W.kla_callFunE hr.depth of1 rfl L.co L.gen rfl ⟨c', oc, vs, t, rfl, hoc, hdc, hvc⟩ ?_
    rw [hbind]
    refine wpAny_pure (wpAny_newFunctionEnv (fun y hy => (L.own y hy).2) (fun y hy => absurd hy (by simp)) (fun h₁ hns hsb => ⟨I1.nolimit.fresh _ hsb, ?_⟩) L.kind)
    show codeAny _ _ (.expr body (lamEnv X scope s1.heap.objs.size f c')) _ _
    have J : L2.Inv (lamCx X (X.A.deeper (envOfC qg sg s.heap.objs.size g cdg)) (envOfC qg sg s.heap.objs.size g cdg :: X.stack) s1 H1 E scope f c') [] σ H1 { s1 with heap := h₁, toks := s1.toks + ([] : List (Str × Value)).length } :=
      lam_start2 I L I1.env0 hr.hd un hns fun b o e => hsb.extBut b o (Nat.ne_of_lt (Heap.lt_size e)) (Heap.get?_push_of_some _ e)
    refine PySem.W.kla_codeExpr (wpAny_mono ((hbody (X.A.deeper (envOfC qg sg s.heap.objs.size g cdg)) _ s1 H1 (by first | rfl | (unfold Around.deeper; simp)) (hr.deeper _)).run [] _ _ H1 Q J ht) (fun v s' hq => ?_) fun _ _ hq => hq)
    obtain ⟨y, H', J', rv, q⟩ := hq
    exact ⟨y, H', J'.os, J'.bare, J'.base, J'.hok, rv, q⟩
  · cases r with
    | error e => exact tk e s' (XE.of_call I1 hW hq)
    | ok fl =>
      cases fl with
      | ret u => exact I1.after hq
      | next => exact False.elim hq
      | brk => exact False.elim hq
      | cont => exact False.elim hq
end
/-- the def that calls what it got -/
def GivesTo2 (X : Cx) (Ng : List Str) (x : Str) (sg : Scope) (g : Addr) (cdg : Value) (bg : List Stmt) (a : Str) (q : Str) (TT : (XK → Hp → VK → Prop) → Hp → VK → Prop) : Prop :=
  ∀ (f c' : Addr) (s : Shared) (H : Hp) (Q : VK) (tl : XK → Hp → VK → Prop),
    (∀ (W : WX) (pn : List (Addr × Obj)) (xe : Value → Shared → Prop) (E : XK) (p1 p2 : Pos), Takes ((gotCx X Ng x sg g cdg s H).tr pn xe) W →
      PE ((gotCx X Ng x sg g cdg s H).tr pn xe) (.Call (.Name a p1) [] [] p2) (fun σZ HZ Q => σZ[0]? = some (some (.ref f)) ∧ HZ c' = some (CodeO c' q) ∧ (∀ cls d H', E cls d H' → W cls d σZ H') ∧ tl E HZ Q)) →
    H c' = some (CodeO c' q) → TT tl H Q → ∃ t, PSs (gotCx X Ng x sg g cdg s H).nox bg t ∧ t { nx := fun _ H' => Q .non H', rt := Q } (L2.start Ng [.ref f]) H
/-- its text -/
def heardBody (q : Nat → Pos) (k : Nat → Nat) (j : Nat → Nat) : List Stmt :=
  [.Assign [.Tuple [.Name "caught" (q 0), .Name "back" (q 1)] (k 0) (q 2)] (.Tuple [.Constant .none (j 0) (q 3), .Constant .none (j 1) (q 4)] (k 1) (q 5)) (q 6),
   .Try [.Assign [.Name "back" (q 7)] (.Call (.Name "call" (q 8)) [] [] (q 9)) (q 10)] [.ExceptHandler (some (.Name "FenceError" (q 11))) (some "error") [.Assign [.Name "caught" (q 12)] (.Name "error" (q 13)) (q 14)] (q 15)] [] [] (q 16),
   .Return (some (.Tuple [.Name "caught" (q 17), .Name "back" (q 18)] (k 2) (q 19))) (q 20)]
def NH : List Str := ["call", "caught", "back", "error"]
/-- what it makes of a lambda -/
def THeard (K : PySem.W.Frag) (FE : Addr) : (XK → Hp → VK → Prop) → Hp → VK → Prop := fun tl H Q => ∀ p0, H p0 = none →
  tl (fun cls d H1 => PySem.W.exmOne K cls (.ref FE) = some true ∧ ∀ a, H1 a = none → ∀ p, upd H1 a (ErrO cls d a) p = none → Q (.ref p) (upd (upd H1 a (ErrO cls d a)) p (.tup [.ref a, .non]))) (upd H p0 (.tup [.non, .non])) fun v H1 => ∀ p, H1 p = none → Q (.ref p) (upd H1 p (.tup [.non, v]))
theorem heard_gives {X : Cx} {x qn : Str} {sg : Scope} {g FE : Addr} {cdg : Value} {q : Nat → Pos} {k : Nat → Nat} {j : Nat → Nat} (hk : sg.kind = .function) (hl : ∀ y ∈ NH, sg.names.lookup y = some .local) (hge : sg.names.lookup ("FenceError" : Str) = some .globalImplicit) (hme : X.mg "FenceError" = some (.ref FE)) :
    GivesTo2 X NH x sg g cdg (heardBody q k j) "call" qn (THeard X.K FE) := by
  intro f c' s H Q tl act hc h
  have nd : NH.Nodup := by decide
  have lc : sg.names.lookup ("caught" : Str) = some .local := hl _ (by unfold NH; simp)
  have lb : sg.names.lookup ("back" : Str) = some .local := hl _ (by unfold NH; simp)
  have le : sg.names.lookup ("error" : Str) = some .local := hl _ (by unfold NH; simp)
  refine ⟨_, pss_cons (ps_asg (pe_tup (pa_cons pe_non (pa_cons pe_non pa_nil))) (pg_tup (n := 2) rfl (pgs_cons (pg_name (i := 1) nd rfl (.inl lc) (.inr lc)) (pgs_cons (pg_name (i := 2) nd rfl (.inl lb) (.inr lb)) pgs_nil))) (by rfl) (swB_none rfl _)) (pss_cons (ps_try_held (x := "FenceError") (n := "error") (c := .ref FE) (i := 3)
    (tb := fun W D σ H => ∃ Ech : XK, σ[0]? = some (some (.ref f)) ∧ H c' = some (CodeO c' qn) ∧ (∀ cls d H', Ech cls d H' → W cls d σ H') ∧ tl Ech H fun v H1 => D.nx (σ.set 2 (some v)) H1)
    rfl rfl rfl nd rfl le ⟨hge, by decide, .inl hme⟩ (fun W pn xe tk _ => ?_) (fun a oe cls d pn _ _ => pss_one (ps_set nd (i := 1) rfl (.inl lc) (pe_var (i := 3) rfl (.inl le)) (by rfl) (.inr lc)))) (pss_one (ps_ret (pe_tup (pa_cons (pe_var (i := 1) rfl (.inl lc)) (pa_cons (pe_var (i := 2) rfl (.inl lb)) pa_nil)))))), ?_⟩
  · refine ⟨fun pins s' σ H' D I h' => ?_⟩
    obtain ⟨Ech, h1, h2, hW, h3⟩ := h'
    have hp := act W pn xe Ech (q 8) (q 9) tk
    have hq := pss_one (ps_set (pos := q 10) (pos' := q 7) nd (i := 2) rfl (.inl lb) hp (by rfl) (.inr lb))
    exact hq.run pins s' σ H' D I ⟨h1, h2, hW, h3⟩
  · refine ⟨by rw [sizeLine_eq]; decide, fun p0 hp0 => ⟨p0, _, rfl, .of upd_same, rfl, ⟨_, _, rfl, ⟨_, _, rfl, rfl, ?_⟩⟩⟩⟩
    refine ⟨fun cls d H1 => PySem.W.exmOne X.K cls (.ref FE) = some true ∧ ∀ a, H1 a = none → ∀ p, upd H1 a (ErrO cls d a) p = none → Q (.ref p) (upd (upd H1 a (ErrO cls d a)) p (.tup [.ref a, .non])), rfl, ?_, fun cls d H' z => ⟨z.1, fun a ha => ?_⟩, ?_⟩
    · rw [upd_ne (ne_of_none hc hp0)]; exact hc
    · exact ⟨_, rfl, _, rfl, _, rfl, by rw [sizeLine_eq]; show 2 ≤ 16777216; decide, fun p hp => z.2 a ha p hp⟩
    · refine cast (congrArg (fun z => tl _ _ z) (funext fun v => funext fun H1 => propext ⟨fun z => ?_, fun z => ?_⟩)) (h p0 hp0)
      · exact ⟨_, rfl, _, rfl, by rw [sizeLine_eq]; show 2 ≤ 16777216; decide, fun p hp => z p hp⟩
      · obtain ⟨_, e1, _, e2, _, z⟩ := z
        cases e1
        cases e2
        exact fun p hp => z p hp
/-! ### x(lambda: body) -/
section
variable {X : Cx}
theorem pe_lam2 {T : List (Addr × Str)} {TT : (XK → Hp → VK → Prop) → Hp → VK → Prop} {x a : Str} {g c P : Addr} {k : Nat} {fd : FuncData} {pg : Arguments} {bg : List Stmt} {sg : Scope} {dV kV doc pm cdv ct oc : Value} {an od : Option Addr} {osl : Array (Option Value)} {Ng : List Str}
    {params : Arguments} {body : Expr} {scope : Scope} {t : XK → TE} {p lpos pos : Pos} (hg : Gl X x) (hm : X.mg x = some (.ref g)) (hk : PySem.W.keepIn X.K (.ref g) = true) (ef : fd = PySem.W.fnOf x x pg bg sg dV kV doc pm an cdv ct)
    (lk : X.K.lookup g = some ⟨oc, od, .func fd, osl⟩) (hcg : PySem.W.codeIn X.K cdv x = true) (hb : L2.Binds X.K fd [a] []) (Sg : FnScope Ng [a] sg) (hNg : Ng[0]? = some a) (hva : Vis sg a) (hG : GivesTo2 X Ng x sg g cdv bg a (X.env.qual ++ "<lambda>") TT)
    (TB : TabB X.base X.mg c P) (hcode : X.env.code = .ref c) (hmT : (P, X.env.qual ++ "<lambda>") ∈ T) (hu : ∀ p ∈ T, p.1 = P → p.2 = X.env.qual ++ "<lambda>") (hr : Room (k + 2) X.A) (L : LamS X.env.scope scope) (hdef : defaultsOf params X.env = ([], []))
    (hbind : ∀ (q : Str) (cl : List (Str × Addr)) (pm cv ctv : Value), bindArgs (PySem.W.kla_fn "<lambda>" q params body scope cl pm cv ctv) ⟨[], []⟩ = pure [])
    (hbody : ∀ (A : Around) (outer : List Env) (s : Shared) (H : Hp) (E : XK) (f c' : Addr), A.guards = X.A.guards → Room k (A.deeper (lamEnv X scope s.heap.objs.size f c')) → PE (lamCx X A outer s H E scope f c') body (t E))
    (hdb : (x == ("__debug__" : Str)) = false) (hd : (a == ("__debug__" : Str)) = false) (hcd : (a == ("__classdict__" : Str)) = false) :
    PE X (.Call (.Name x p) [.Lambda params body scope lpos] [] pos) (tLam T TT t) := by
  subst ef
  refine ⟨fun pins s σ H Q I ⟨hT, h⟩ => ?_⟩
  refine wpAny_Call_Name_kw (ld_glob I hg hm (PySem.W.callWith_K (h₀ := X.base) I.ok.mod.kin hk ?_ (by rfl) (by rfl)) hdb)
  show wpAny _ _ (spliced ((false, eval (.Lambda params body scope lpos) X.env) :: backTo pos (starEach [] X.env))) _ _ s
  refine Calls.spliced_cons (lam_make2 I TB hcode hmT hu hT hdef (L.has I.ok) fun f c' pm' ctv H1 s' I1 eN T1 hf hfn hfr hco => Calls.spliced_nil ⟨I1.kIn, ?_⟩)
  refine wpAny_call (codeAny_mono (R := CR C8.CX0 X.stack X.prog X.w H1 s' Q C8.E0) (run_ofS (N := Ng) (ps := [a]) (us := [.ref f]) (vs := [.ref f]) lk hcg Sg hr I1.env0 (hb s' [.ref f] I1.kIn rfl) (.cons rfl .nil) rfl fun hr' => ?_) fun r s2 hq => ?_)
  · obtain ⟨t', ht', hq'⟩ := hG f c' s' H1 Q (fun E H' Q' => t E σ H' Q') (fun W pn xe E p1 p2 tk => pe_act2 (i := 0) I1 L hf hfn hfr (hbind _ _ _ _ _) tk hr' (fun A outer s H hg hr2 => hbody A outer s H E f c' hg hr2) hNg hva hd hcd) hco (h H1 eN T1)
    exact ⟨t', ht'.nox, hq'⟩
  · cases r with
    | error e => exact (show False from hq).elim
    | ok fl =>
      cases fl with
      | ret u => exact I1.after hq
      | next => exact False.elim hq
      | brk => exact False.elim hq
      | cont => exact False.elim hq
end
end Rf


set_option Elab.async false
set_option linter.all false
set_option maxRecDepth 100000
set_option maxHeartbeats 4000000
/-! Rh, part D: a held error asked: its class, its value. -/
namespace Rf
open PySem PySem.Spec PyProof.Rows L2
section
variable {X : Cx}
theorem errO_inst {K : PySem.W.Frag} {P : Program} {w : World} {H : Hp} {h : Heap} {D dx a : Addr} {fs : List (Str × V)} (hok : HOk P w H h) (ha : H a = some (ErrO (.ref D) (some dx) a)) (hd : H dx = some (.xd fs)) :
    ∃ (oe od : Obj), PySem.W.InstAt h a oe D (some od) ∧ h.get? dx = some od := by
  obtain ⟨oe, vs, e1, ⟨e2, e3⟩, e4⟩ := errO_at (hok a _ ha)
  obtain ⟨mA, ⟨od, es, ep, e5, e6⟩, _⟩ := (show ∃ mA, h.Ns1 dx mA ∧ ∀ f, RelO (fs.lookup f) (mA f) from hok dx _ hd)
  exact ⟨oe, od, ⟨e1, e2, by unfold PySem.W.notCls; rw [e4] <;> rfl, by rw [e3]; exact e5⟩, e5⟩
/-- isinstance(e, c), e a held error -/
def rIsErr (K : PySem.W.Frag) : List V → Hp → VK → Prop := fun xs H Q => ∃ (a D dx : Addr) (fs : List (Str × V)) (c : V) (cv : Value) (b : Bool), xs = [.ref a, c] ∧ H a = some (ErrO (.ref D) (some dx) a) ∧ H dx = some (.xd fs) ∧ ExcC K D ∧ (∀ u, RelV c u → u = cv) ∧ PySem.W.kitOne K (.ref D) cv = some b ∧ Q (.bl b) H
theorem call_isErr : CallR X (.builtin "isinstance") (rIsErr X.K) := by
  intro pins s σ H xs us Q I r ⟨a, D, dx, fs, c, cv, b, exs, ha, hd, C, hcv, e, q⟩
  subst exs
  cases r with
  | cons rx rr =>
    cases rr with
    | cons rt rr =>
      cases rr
      cases rx
      have ec := hcv _ rt
      subst ec
      obtain ⟨oe, od, J, _⟩ := errO_inst (K := X.K) I.hok ha hd
      obtain ⟨cdD, hcD, _⟩ := PySem.W.any_some C.hd
      exact PySem.W.kia_one (PySem.W.kitx_exc (od := some od) (by rw [hcD]; rfl) C.hg C.hk C.hs C.ha C.hn C.ht C.hm) I.kIn J e (fun z => nomatch z) fun tk => ⟨.bl b, H, I.kept (t' := tk) fun _ _ z => z, rfl, q⟩
/-- e.f, e a held error -/
def tErrF (K : PySem.W.Frag) (f : Str) (te : TE) : TE := fun σ H Q => te σ H fun x H1 => ∃ (a D dx : Addr) (fs : List (Str × V)) (v : V), x = .ref a ∧ H1 a = some (ErrO (.ref D) (some dx) a) ∧ H1 dx = some (.xd fs) ∧ XfC K D ∧ PySem.W.findIn K (.ref D) f = some none ∧ fs.lookup f = some v ∧ Q v H1
theorem pe_errF {e : Expr} {te : TE} {pos : Pos} {f : Str} (he : PE X e te) (hb : attributeBase e f X.env (eval e X.env) = eval e X.env) : PE X (.Attribute e f pos) (tErrF X.K f te) := by
  refine ⟨fun pins s σ H Q I h => ?_⟩
  refine attr_of hb (thn (he.run pins s σ H _ I h) fun u s1 ⟨x, H1, I1, rx, a, D, dx, fs, v, ex, ha, hd, T, hno, l, q⟩ => ?_)
  subst ex
  obtain rfl : u = Value.ref a := rx
  obtain ⟨oe, od, J, ho⟩ := errO_inst (K := X.K) I1.hok ha hd
  obtain ⟨mA, hns, hr⟩ := (show ∃ mA, s1.heap.Ns1 dx mA ∧ ∀ f, RelO (fs.lookup f) (mA f) from I1.hok dx _ hd)
  obtain ⟨od', ho', hl⟩ := lookIn_ns hns
  rw [ho] at ho'
  cases ho'
  obtain ⟨u, hu, ru⟩ := RelO.some_of (v := v) (o := mA f) (by rw [← l]; exact hr f)
  exact HandSPX.exc_get I1.kIn J T.ga T.gg T.exC (PySem.W.findObj_own T.hdC hno rfl (by rw [hl, hu])) (handed_of ru) ⟨v, H1, I1.tok _, ru, q⟩
end
end Rf


/-! Rh: the defs with lambdas of this law. -/
namespace Rf
open PySem
def TF : List (Str × Option Str) := (["_law_inside"] : List String).map fun x => (Str.ofString x, none)
end Rf


set_option Elab.async false
set_option linter.all false
set_option maxRecDepth 100000
set_option maxHeartbeats 2000000
/-! Rf, part A: data, a store of objects, what the heap shows of them. -/
namespace Rf
open PySem PySem.Spec PyProof.Rows L2

/-! ### data -/
inductive D where
  | non | bl (b : Bool) | int (i : Int) | str (x : Str) | tup (xs : List D) | rol (xs : List D) | obj (n : Nat)
  | rep (p : PyData) | err (c : Str) (d : D)
  deriving Inhabited
inductive O where
  | lst (xs : List D) | dK (kvs : List (Key × D)) | dT (kvs : List (List Key × D)) | ins (c : Str) (fs : List (Str × D))
  deriving Inhabited

/-! ### the store: a row of cells -/
structure Sto where
  row : List (Option O)
  deriving Inhabited
def Sto.sz (μ : Sto) : Nat := μ.row.length
def Sto.get (μ : Sto) (n : Nat) : Option O := (μ.row[n]?).join
def Sto.put (μ : Sto) (n : Nat) (o : O) : Sto := ⟨μ.row.set n (some o)⟩
def Sto.push (μ : Sto) (o : O) : Sto := ⟨μ.row ++ [some o]⟩
def Sto.del (μ : Sto) (n : Nat) : Sto := ⟨μ.row.set n none⟩
def Sto.cut (μ : Sto) (k : Nat) : Sto := ⟨μ.row.take k⟩
theorem Sto.get_put (μ : Sto) (n m : Nat) (o : O) (h : n < μ.sz) : (μ.put n o).get m = if m = n then some o else μ.get m := by
  unfold Sto.get Sto.put
  by_cases e : m = n
  · subst e
    rw [if_pos rfl, List.getElem?_set_self h]
    rfl
  · rw [if_neg e, List.getElem?_set_ne (fun z => e z.symm)]
theorem Sto.get_push (μ : Sto) (m : Nat) (o : O) : (μ.push o).get m = if m = μ.sz then some o else μ.get m := by
  unfold Sto.get Sto.push
  by_cases e : m = μ.sz
  · rw [if_pos e, e]
    unfold Sto.sz
    rw [List.getElem?_append_right (Nat.le_refl _), Nat.sub_self]
    rfl
  · rw [if_neg e]
    rcases Nat.lt_or_ge m μ.sz with h | h
    · rw [List.getElem?_append_left h]
    · have h2 : μ.row.length < m := by unfold Sto.sz at e h; omega
      rw [List.getElem?_eq_none (by rw [List.length_append]; exact h2), List.getElem?_eq_none (Nat.le_of_lt h2)]
theorem Sto.get_lt {μ : Sto} {n : Nat} {o : O} (h : μ.get n = some o) : n < μ.sz := by
  rcases Nat.lt_or_ge n μ.sz with z | z
  · exact z
  · unfold Sto.get at h
    rw [List.getElem?_eq_none z] at h
    cases h
theorem Sto.get_put_same (μ : Sto) (n : Nat) (o : O) (h : n < μ.sz) : (μ.put n o).get n = some o := by rw [Sto.get_put _ _ _ _ h, if_pos rfl]
theorem Sto.get_put_ne (μ : Sto) {n m : Nat} (o : O) (h : m ≠ n) : (μ.put n o).get m = μ.get m := by
  unfold Sto.get Sto.put
  rw [List.getElem?_set_ne (fun z => h z.symm)]
theorem Sto.get_push_same (μ : Sto) (o : O) : (μ.push o).get μ.sz = some o := by rw [Sto.get_push, if_pos rfl]
theorem Sto.get_del_same (μ : Sto) (n : Nat) : (μ.del n).get n = none := by
  unfold Sto.get Sto.del
  rw [List.getElem?_set]
  split <;> (try split) <;> first | rfl | (rename_i z; exact absurd rfl z)
theorem Sto.get_del_ne (μ : Sto) {n m : Nat} (h : m ≠ n) : (μ.del n).get m = μ.get m := by
  unfold Sto.get Sto.del
  rw [List.getElem?_set_ne (fun z => h z.symm)]
theorem Sto.get_cut (μ : Sto) {k m : Nat} (h : m < k) : (μ.cut k).get m = μ.get m := by
  unfold Sto.get Sto.cut
  rw [List.getElem?_take_of_lt h]
theorem Sto.sz_put (μ : Sto) (n : Nat) (o : O) : (μ.put n o).sz = μ.sz := List.length_set
theorem Sto.sz_del (μ : Sto) (n : Nat) : (μ.del n).sz = μ.sz := List.length_set
theorem Sto.sz_push (μ : Sto) (o : O) : (μ.push o).sz = μ.sz + 1 := by unfold Sto.sz Sto.push; rw [List.length_append]; rfl
theorem Sto.sz_cut (μ : Sto) (k : Nat) : (μ.cut k).sz = min k μ.sz := List.length_take

/-! ### outcomes -/
inductive Out (α : Type) where
  | ok (a : α) (μ : Sto) | exc (c : Str) (d : D) (μ : Sto) | no
def Out.bind {α β : Type} : Out α → (α → Sto → Out β) → Out β
  | .ok a μ, k => k a μ
  | .exc c d μ, _ => .exc c d μ
  | .no, _ => .no
def lift {α : Type} : Option (α × Sto) → Out α
  | some (a, μ) => .ok a μ
  | none => .no

/-! ### what the heap shows of data -/
/-- a list that is read only -/
def RoL (K : PySem.W.Frag) (H : Hp) (a : Addr) (vs : List V) : Prop := (∃ o, H a = some (.frz o (.lst vs))) ∨ ∃ (o : Obj) (its : Array Value) (n : Nat), K.lookup a = some o ∧ o.cls = .type "list" ∧ o.dict = none ∧ o.data = .seq its n ∧ its.size ≤ sizeLine ∧ Vals vs its.toList ∧ o = { cls := .type "list", data := .seq its n }
theorem RoL.sq {K : PySem.W.Frag} {H : Hp} {a : Addr} {vs : List V} (h : RoL K H a vs) : SqL K H a vs := h.elim (fun ⟨o, e⟩ => .inl (.inr ⟨o, e⟩)) (fun ⟨o, its, n, h1, h2, h3, h4, h5, h6, _⟩ => .inr ⟨o, its, n, h1, h2, h3, h4, h5, h6⟩)
section
variable (K : PySem.W.Frag) (ρ : List Addr) (H : Hp)
mutual
def Rep : D → V → Prop
  | .non, v => v = .non
  | .bl b, v => v = .bl b
  | .int i, v => v = .int i
  | .str x, v => v = .str x
  | .tup ds, v => ∃ a vs, v = .ref a ∧ SqT K H a vs ∧ Reps ds vs
  | .rol ds, v => ∃ a vs, v = .ref a ∧ RoL K H a vs ∧ Reps ds vs
  | .obj n, v => ∃ a, v = .ref a ∧ ρ[n]? = some a
  | .rep p, v => v = .str p.shown
  | .err c d, v => ∃ a dx w, v = .ref a ∧ H a = some (ErrO (.ref (He.ga K c)) (some dx) a) ∧ H dx = some (.xd [("value", w)]) ∧ Rep d w
def Reps : List D → List V → Prop
  | [], vs => vs = []
  | d :: ds, vs => ∃ v r, vs = v :: r ∧ Rep d v ∧ Reps ds r
end
end
/-- what stays as it is: objects that others tell of -/
def Keep : HO → Prop
  | .ext _ => True
  | .xd _ => True
  | _ => False
/-- an object, no table -/
def Lv : Option HO → Prop
  | none => False
  | some (.tbl _) => False
  | some _ => True
theorem Lv.ne {o : Option HO} (h : Lv o) : o ≠ none := fun e => by rw [e] at h; exact h
theorem Lv.some {o : HO} (h : ∀ ps, o ≠ .tbl ps) : Lv (some o) := by
  cases o with
  | tbl ps => exact absurd rfl (h ps)
  | _ => trivial
theorem Lv.no {o : HO} {ps : Array Value} (h : Lv (Option.some o)) : o ≠ .tbl ps := fun e => by rw [e] at h; exact h
/-- the code tables of the defs with lambdas -/
def tabsOf (K : PySem.W.Frag) : List (Addr × Str) := TF.map fun p => ((He.cT K p).2, p.1 ++ ".<locals>." ++ "<lambda>")
structure Ext (K : PySem.W.Frag) (ρ : List Addr) (H : Hp) (ρ' : List Addr) (H' : Hp) : Prop where
  pre : ∃ ex, ρ' = ρ ++ ex ∧ ∀ a ∈ ex, ¬ Lv (H a)
  tup : ∀ a vs, SqT K H a vs → SqT K H' a vs
  frz : ∀ a o u, H a = some (.frz o u) → H' a = some (.frz o u)
  oth : ∀ a o, H a = some o → a ∉ ρ → (∀ ps, o ≠ .tbl ps) → H' a = some o
  live : ∀ a, Lv (H a) → Lv (H' a)
  err : ∀ a o, Keep o → H a = some o → H' a = some o
  tab : LamX.Tabs (tabsOf K) H → LamX.Tabs (tabsOf K) H'
section
variable {K : PySem.W.Frag} {ρ ρ' ρ₂ : List Addr} {H H' H₂ : Hp}
theorem Ext.refl : Ext K ρ H ρ H := ⟨⟨[], by simp, fun _ h => by cases h⟩, fun _ _ h => h, fun _ _ _ h => h, fun _ _ h _ _ => h, fun _ h => h, fun _ _ _ h => h, fun h => h⟩
theorem Ext.trans (x : Ext K ρ H ρ' H') (y : Ext K ρ' H' ρ₂ H₂) : Ext K ρ H ρ₂ H₂ := by
  obtain ⟨e1, p1, q1⟩ := x.pre
  obtain ⟨e2, p2, q2⟩ := y.pre
  refine ⟨⟨e1 ++ e2, by rw [p2, p1, List.append_assoc], fun a ha => ?_⟩, fun a vs h => y.tup a vs (x.tup a vs h), fun a o u h => y.frz a o u (x.frz a o u h), fun a o h hn nt => ?_, fun a h => y.live a (x.live a h), fun a o k h => y.err a o k (x.err a o k h), fun h => y.tab (x.tab h)⟩
  · rcases List.mem_append.mp ha with h | h
    · exact q1 a h
    · exact fun z => q2 a h (x.live a z)
  · refine y.oth a o (x.oth a o h hn nt) ?_ nt
    rw [p1]
    intro hm
    rcases List.mem_append.mp hm with z | z
    · exact hn z
    · exact q1 a z (by rw [h]; exact Lv.some nt)
/-- what data leans on -/
structure Ex0 (K : PySem.W.Frag) (ρ : List Addr) (H : Hp) (ρ' : List Addr) (H' : Hp) : Prop where
  pre : ∃ ex, ρ' = ρ ++ ex
  tup : ∀ a vs, SqT K H a vs → SqT K H' a vs
  frz : ∀ a o u, H a = some (.frz o u) → H' a = some (.frz o u)
  err : ∀ a o, Keep o → H a = some o → H' a = some o
theorem Ext.ex0 (x : Ext K ρ H ρ' H') : Ex0 K ρ H ρ' H' := ⟨let ⟨e, p, _⟩ := x.pre; ⟨e, p⟩, x.tup, x.frz, x.err⟩
theorem Ex0.get (x : Ex0 K ρ H ρ' H') {n : Nat} {a : Addr} (h : ρ[n]? = some a) : ρ'[n]? = some a := by
  obtain ⟨e1, p1⟩ := x.pre
  rw [p1, List.getElem?_append_left]
  · exact h
  · exact (List.getElem?_eq_some_iff.mp h).1
theorem Ext.get (x : Ext K ρ H ρ' H') {n : Nat} {a : Addr} (h : ρ[n]? = some a) : ρ'[n]? = some a := x.ex0.get h
theorem RoL.ext0 (x : Ex0 K ρ H ρ' H') {a : Addr} {vs : List V} (h : RoL K H a vs) : RoL K H' a vs := h.elim (fun ⟨o, e⟩ => .inl ⟨o, x.frz _ _ _ e⟩) .inr
mutual
theorem Rep.ext0 (x : Ex0 K ρ H ρ' H') : ∀ (d : D) (v : V), Rep K ρ H d v → Rep K ρ' H' d v
  | .non, v, h => by unfold Rep at h ⊢; exact h
  | .bl b, v, h => by unfold Rep at h ⊢; exact h
  | .int i, v, h => by unfold Rep at h ⊢; exact h
  | .str s, v, h => by unfold Rep at h ⊢; exact h
  | .tup ds, v, h => by
    unfold Rep at h ⊢
    obtain ⟨a, vs, e, t, r⟩ := h
    exact ⟨a, vs, e, x.tup a vs t, Reps.ext0 x ds vs r⟩
  | .rol ds, v, h => by
    unfold Rep at h ⊢
    obtain ⟨a, vs, e, t, r⟩ := h
    exact ⟨a, vs, e, t.ext0 x, Reps.ext0 x ds vs r⟩
  | .obj n, v, h => by
    unfold Rep at h ⊢
    obtain ⟨a, e, t⟩ := h
    exact ⟨a, e, x.get t⟩
  | .rep p, v, h => by unfold Rep at h ⊢; exact h
  | .err c d, v, h => by
    unfold Rep at h ⊢
    obtain ⟨a, dx, w, e, h1, h2, r⟩ := h
    exact ⟨a, dx, w, e, x.err _ _ trivial h1, x.err _ _ trivial h2, Rep.ext0 x d w r⟩
theorem Reps.ext0 (x : Ex0 K ρ H ρ' H') : ∀ (ds : List D) (vs : List V), Reps K ρ H ds vs → Reps K ρ' H' ds vs
  | [], vs, h => by unfold Reps at h ⊢; exact h
  | d :: ds, vs, h => by
    unfold Reps at h ⊢
    obtain ⟨v, r, e, h1, h2⟩ := h
    exact ⟨v, r, e, Rep.ext0 x d v h1, Reps.ext0 x ds r h2⟩
end
theorem Rep.ext (x : Ext K ρ H ρ' H') (d : D) (v : V) (h : Rep K ρ H d v) : Rep K ρ' H' d v := Rep.ext0 x.ex0 d v h
theorem Reps.ext (x : Ext K ρ H ρ' H') (ds : List D) (vs : List V) (h : Reps K ρ H ds vs) : Reps K ρ' H' ds vs := Reps.ext0 x.ex0 ds vs h
theorem Reps.nil : Reps K ρ H [] [] := by unfold Reps; rfl
theorem Reps.cons {d : D} {ds : List D} {v : V} {vs : List V} (h : Rep K ρ H d v) (t : Reps K ρ H ds vs) : Reps K ρ H (d :: ds) (v :: vs) := by unfold Reps; exact ⟨v, vs, rfl, h, t⟩
theorem Reps.uncons {d : D} {ds : List D} {vs : List V} (h : Reps K ρ H (d :: ds) vs) : ∃ v r, vs = v :: r ∧ Rep K ρ H d v ∧ Reps K ρ H ds r := by unfold Reps at h; exact h
theorem Reps.unnil {vs : List V} (h : Reps K ρ H [] vs) : vs = [] := by unfold Reps at h; exact h
theorem Reps.length : ∀ {ds : List D} {vs : List V}, Reps K ρ H ds vs → vs.length = ds.length
  | [], _, h => by rw [h.unnil]; rfl
  | d :: ds, _, h => by
    obtain ⟨v, r, rfl, _, t⟩ := h.uncons
    rw [List.length_cons, List.length_cons, Reps.length t]
theorem Reps.get : ∀ {ds : List D} {vs : List V} {i : Nat} {d : D}, Reps K ρ H ds vs → ds[i]? = some d → ∃ v, vs[i]? = some v ∧ Rep K ρ H d v
  | [], _, _, _, _, e => by simp at e
  | d :: ds, _, 0, d', h, e => by
    obtain ⟨v, r, rfl, hv, t⟩ := h.uncons
    have e' : d = d' := by simpa using e
    subst e'
    exact ⟨v, rfl, hv⟩
  | d :: ds, _, i + 1, d', h, e => by
    obtain ⟨v, r, rfl, hv, t⟩ := h.uncons
    obtain ⟨v', e1, e2⟩ := Reps.get (i := i) (d := d') t (by simpa using e)
    exact ⟨v', by simpa using e1, e2⟩
theorem Reps.append : ∀ {ds es : List D} {vs us : List V}, Reps K ρ H ds vs → Reps K ρ H es us → Reps K ρ H (ds ++ es) (vs ++ us)
  | [], _, _, _, h, k => by rw [h.unnil]; exact k
  | d :: ds, _, _, _, h, k => by
    obtain ⟨v, r, rfl, hv, t⟩ := h.uncons
    exact Reps.cons hv (Reps.append t k)
theorem Reps.take : ∀ {ds : List D} {vs : List V} (n : Nat), Reps K ρ H ds vs → Reps K ρ H (ds.take n) (vs.take n)
  | _, _, 0, _ => Reps.nil
  | [], _, n + 1, h => by rw [h.unnil]; exact Reps.nil
  | d :: ds, _, n + 1, h => by
    obtain ⟨v, r, rfl, hv, t⟩ := h.uncons
    exact Reps.cons hv (Reps.take n t)
theorem Reps.drop : ∀ {ds : List D} {vs : List V} (n : Nat), Reps K ρ H ds vs → Reps K ρ H (ds.drop n) (vs.drop n)
  | _, _, 0, h => h
  | [], _, n + 1, h => by rw [h.unnil]; exact Reps.nil
  | d :: ds, _, n + 1, h => by
    obtain ⟨v, r, rfl, hv, t⟩ := h.uncons
    exact Reps.drop n t
theorem Reps.set : ∀ {ds : List D} {vs : List V} {d : D} {v : V} (i : Nat), Reps K ρ H ds vs → Rep K ρ H d v → Reps K ρ H (ds.set i d) (vs.set i v)
  | [], _, _, _, _, h, _ => by rw [h.unnil]; exact Reps.nil
  | d :: ds, _, _, _, 0, h, k => by
    obtain ⟨v, r, rfl, hv, t⟩ := h.uncons
    exact Reps.cons k t
  | d :: ds, _, _, _, i + 1, h, k => by
    obtain ⟨v, r, rfl, hv, t⟩ := h.uncons
    exact Reps.cons hv (Reps.set i t k)
theorem Reps.reverse : ∀ {ds : List D} {vs : List V}, Reps K ρ H ds vs → Reps K ρ H ds.reverse vs.reverse
  | [], _, h => by rw [h.unnil]; exact Reps.nil
  | d :: ds, _, h => by
    obtain ⟨v, r, rfl, hv, t⟩ := h.uncons
    rw [List.reverse_cons, List.reverse_cons]
    exact (Reps.reverse t).append (Reps.cons hv Reps.nil)

/-! ### objects -/
/-- pairs by key -/
def Kvs {κ : Type} (R : D → V → Prop) : List (κ × D) → List (κ × V) → Prop
  | [], us => us = []
  | p :: ps, us => ∃ u r, us = (p.1, u) :: r ∧ R p.2 u ∧ Kvs R ps r
theorem Kvs.imp {κ : Type} {R S : D → V → Prop} (f : ∀ d v, R d v → S d v) : ∀ {ps : List (κ × D)} {us : List (κ × V)}, Kvs R ps us → Kvs S ps us
  | [], _, h => h
  | p :: ps, _, ⟨u, r, e, h1, h2⟩ => ⟨u, r, e, f _ _ h1, Kvs.imp f h2⟩
def ORep (K : PySem.W.Frag) (ρ : List Addr) (H : Hp) (a : Addr) : O → Prop
  | .lst ds => ∃ vs, H a = some (.lst vs) ∧ Reps K ρ H ds vs
  | .dK kvs => ∃ us, H a = some (.dK us) ∧ Kvs (Rep K ρ H) kvs us
  | .dT kvs => ∃ us, H a = some (.dT us) ∧ Kvs (Rep K ρ H) kvs us
  | .ins c fs => ∃ dx us, H a = some (.ins (He.ga K c) dx us) ∧ Kvs (Rep K ρ H) fs us
theorem ORep.some {a : Addr} {o : O} (h : ORep K ρ H a o) : ∃ u, H a = some u ∧ Mut (some u) ∧ (∀ xs, u ≠ .tup xs) ∧ ¬ Keep u ∧ Lv (some u) := by
  cases o with
  | lst ds => obtain ⟨vs, e, _⟩ := h; exact ⟨_, e, trivial, fun _ z => (by cases z), id, trivial⟩
  | dK kvs => obtain ⟨vs, e, _⟩ := h; exact ⟨_, e, trivial, fun _ z => (by cases z), id, trivial⟩
  | dT kvs => obtain ⟨vs, e, _⟩ := h; exact ⟨_, e, trivial, fun _ z => (by cases z), id, trivial⟩
  | ins c fs => obtain ⟨dx, vs, e, _⟩ := h; exact ⟨_, e, trivial, fun _ z => (by cases z), id, trivial⟩
theorem ORep.ext0 (x : Ex0 K ρ H ρ' H') {a : Addr} {o : O} (h : ORep K ρ H a o) (s : H' a = H a) : ORep K ρ' H' a o := by
  cases o with
  | lst ds => obtain ⟨vs, e, r⟩ := h; exact ⟨vs, by rw [s]; exact e, Reps.ext0 x _ _ r⟩
  | dK kvs => obtain ⟨vs, e, r⟩ := h; exact ⟨vs, by rw [s]; exact e, r.imp (Rep.ext0 x)⟩
  | dT kvs => obtain ⟨vs, e, r⟩ := h; exact ⟨vs, by rw [s]; exact e, r.imp (Rep.ext0 x)⟩
  | ins c fs => obtain ⟨dx, vs, e, r⟩ := h; exact ⟨dx, vs, by rw [s]; exact e, r.imp (Rep.ext0 x)⟩
theorem ORep.ext (x : Ext K ρ H ρ' H') {a : Addr} {o : O} (h : ORep K ρ H a o) (s : H' a = H a) : ORep K ρ' H' a o := h.ext0 x.ex0 s
structure Sim (K : PySem.W.Frag) (ρ : List Addr) (H : Hp) (μ : Sto) : Prop where
  len : ρ.length = μ.sz
  nd : ρ.Nodup
  live : ∀ a ∈ ρ, Lv (H a)
  tabs : LamX.Tabs (tabsOf K) H
  obj : ∀ n o, μ.get n = some o → ∃ a, ρ[n]? = some a ∧ ORep K ρ H a o
theorem Sim.lt {μ : Sto} (S : Sim K ρ H μ) {n : Nat} {o : O} (h : μ.get n = some o) : n < μ.sz := by
  obtain ⟨a, e, _⟩ := S.obj n o h
  rw [← S.len]
  exact (List.getElem?_eq_some_iff.mp e).1
/-- the heap has more, the store stays -/
theorem Sim.keep {μ : Sto} (S : Sim K ρ H μ) (x : Ext K ρ H ρ H') (s : ∀ a ∈ ρ, H' a = H a) : Sim K ρ H' μ := by
  refine ⟨S.len, S.nd, fun a ha => x.live a (S.live a ha), x.tab S.tabs, fun n o h => ?_⟩
  obtain ⟨a, e, r⟩ := S.obj n o h
  exact ⟨a, e, r.ext x (s a (List.mem_of_getElem? e))⟩

/-! ### steps of the heap -/
theorem upd_sqT {p : Addr} {o : HO} (hn : ∀ xs, H p ≠ some (.tup xs)) (hf : ∀ o' u, H p ≠ some (.frz o' u)) {a : Addr} {vs : List V} (h : SqT K H a vs) : SqT K (upd H p o) a vs := by
  rcases h with (h | ⟨o', h⟩) | h
  · exact .inl (.inl (by rw [upd_ne (show a ≠ p from fun e => hn vs (by rw [← e]; exact h))]; exact h))
  · exact .inl (.inr ⟨o', by rw [upd_ne (show a ≠ p from fun e => hf o' _ (by rw [← e]; exact h))]; exact h⟩)
  · exact .inr h
theorem tab_upd {T : List (Addr × Str)} {p : Addr} {o : HO} (h : LamX.Tabs T H) (n : H p = none ∨ ∃ u, H p = some u ∧ ¬ Keep u ∧ ∀ ps, u ≠ .tbl ps) : LamX.Tabs T (upd H p o) := by
  intro q hq
  obtain ⟨ps, h1, h2, h3⟩ := h q hq
  refine ⟨ps, ?_, h2, fun pos cv hc => ?_⟩
  · rw [upd_ne fun z => ?_]
    · exact h1
    · rcases n with n | ⟨u, n1, _, n3⟩
      · rw [z, n] at h1; cases h1
      · rw [z, n1] at h1; exact n3 ps (Option.some.inj h1)
  · obtain ⟨c, e1, e2⟩ := h3 pos cv hc
    refine ⟨c, e1, ?_⟩
    rw [upd_ne fun z => ?_]
    · exact e2
    · rcases n with n | ⟨u, n1, n2, _⟩
      · rw [z, n] at e2; cases e2
      · rw [z, n1] at e2
        rw [Option.some.inj e2] at n2
        exact n2 trivial
theorem Ext.new {p : Addr} {o : HO} (h : H p = none) : Ext K ρ H ρ (upd H p o) :=
  ⟨⟨[], by simp, fun _ z => by cases z⟩, fun a vs t => upd_sqT (by rw [h]; intro _ z; cases z) (by rw [h]; intro _ _ z; cases z) t, fun a o' u e => by rw [upd_ne (ne_of_none e h)]; exact e,
    fun a o' e _ _ => by rw [upd_ne (ne_of_none e h)]; exact e, fun a z => by
      by_cases e : a = p
      · rw [e, h] at z; exact z.elim
      · rw [upd_ne e]; exact z, fun a o' _ e => by rw [upd_ne (ne_of_none e h)]; exact e, fun t => tab_upd t (.inl h)⟩
theorem Ext.alloc {p : Addr} {o : HO} (h : H p = none) : Ext K ρ H (ρ ++ [p]) (upd H p o) := by
  have x := Ext.new (K := K) (ρ := ρ) (o := o) h
  exact ⟨⟨[p], rfl, fun a z => by rw [List.mem_singleton.mp z, h]; exact id⟩, x.tup, x.frz, x.oth, x.live, x.err, x.tab⟩
theorem Sim.notNew {μ : Sto} (S : Sim K ρ H μ) {p : Addr} (h : H p = none) : ∀ a ∈ ρ, a ≠ p := fun a ha e => (S.live a ha).ne (by rw [e]; exact h)
theorem Sim.new {μ : Sto} (S : Sim K ρ H μ) {p : Addr} {o : HO} (h : H p = none) : Sim K ρ (upd H p o) μ :=
  S.keep (Ext.new h) fun a ha => by rw [upd_ne (S.notNew h a ha)]
/-- a new tuple -/
theorem Rep.newTup {p : Addr} {ds : List D} {vs : List V} (h : H p = none) (r : Reps K ρ H ds vs) : Rep K ρ (upd H p (.tup vs)) (.tup ds) (.ref p) := by
  unfold Rep
  exact ⟨p, vs, rfl, .of upd_same, r.ext (Ext.new h)⟩
/-- a new object -/
theorem Sim.alloc {μ : Sto} (S : Sim K ρ H μ) {p : Addr} {o : HO} {b : O} (h : H p = none) (r : ORep K (ρ ++ [p]) (upd H p o) p b) : Sim K (ρ ++ [p]) (upd H p o) (μ.push b) ∧ Rep K (ρ ++ [p]) (upd H p o) (.obj μ.sz) (.ref p) := by
  have last : (ρ ++ [p])[μ.sz]? = some p := by rw [← S.len, List.getElem?_append_right (Nat.le_refl _), Nat.sub_self]; rfl
  have np := S.notNew h
  refine ⟨⟨?_, ?_, fun a ha => ?_, tab_upd S.tabs (.inl h), fun n b' e => ?_⟩, ?_⟩
  · rw [List.length_append, Sto.sz_push, S.len]; rfl
  · refine List.nodup_append.mpr ⟨S.nd, by simp, fun a ha b hb => ?_⟩
    rw [List.mem_singleton.mp hb]
    exact np a ha
  · rcases List.mem_append.mp ha with z | z
    · rw [upd_ne (np a z)]; exact S.live a z
    · obtain ⟨u, e1, _, _, _, e2⟩ := r.some
      rw [List.mem_singleton.mp z, e1]; exact e2
  · by_cases hn : n = μ.sz
    · subst hn
      rw [Sto.get_push_same] at e
      cases e
      exact ⟨p, last, r⟩
    · rw [Sto.get_push, if_neg hn] at e
      obtain ⟨a, e1, r'⟩ := S.obj n b' e
      exact ⟨a, (Ext.alloc (K := K) (o := o) h).get e1, r'.ext (Ext.alloc h) (by rw [upd_ne (np a (List.mem_of_getElem? e1))])⟩
  · unfold Rep
    exact ⟨p, rfl, last⟩
/-- an object written -/
theorem Ext.write {μ : Sto} (S : Sim K ρ H μ) {n : Nat} {b : O} {a : Addr} {u : HO} (hb : μ.get n = some b) (ha : ρ[n]? = some a) (lu : Lv (some u)) : Ext K ρ H ρ (upd H a u) := by
  obtain ⟨a', e1, r'⟩ := S.obj n b hb
  rw [ha] at e1
  have e1 : a = a' := Option.some.inj e1
  subst e1
  obtain ⟨u', e2, m, nt, nk, lv⟩ := r'.some
  have nf : ∀ o' w, H a ≠ some (.frz o' w) := fun o' w z => by rw [e2] at z; cases z; exact m
  refine ⟨⟨[], by simp, fun _ z => by cases z⟩, fun c vs t => upd_sqT (fun xs z => ?_) nf t, fun c o' w e => ?_, fun c o' e hc _ => ?_, fun c z => ?_, fun c o' k e => ?_, fun t => tab_upd t (.inr ⟨u', e2, nk, fun ps => lv.no⟩)⟩
  · rw [e2] at z; exact nt xs (Option.some.inj z)
  · rw [upd_ne (show c ≠ a from fun z => nf o' w (by rw [← z]; exact e))]; exact e
  · rw [upd_ne (show c ≠ a from fun z => hc (by rw [z]; exact List.mem_of_getElem? ha))]; exact e
  · by_cases e : c = a
    · rw [e, upd_same]; exact lu
    · rw [upd_ne e]; exact z
  · rw [upd_ne fun z => ?_]
    · exact e
    · rw [z, e2] at e
      rw [Option.some.inj e] at nk
      exact nk k
theorem nodup_at {ρ : List Addr} (h : ρ.Nodup) {n m : Nat} {a : Addr} (e1 : ρ[n]? = some a) (e2 : ρ[m]? = some a) : n = m := by
  exact (List.getElem?_inj (List.getElem?_eq_some_iff.mp e1).1 h).mp (e1.trans e2.symm)
theorem Sim.write {μ : Sto} (S : Sim K ρ H μ) {n : Nat} {b b' : O} {a : Addr} {u : HO} (hb : μ.get n = some b) (ha : ρ[n]? = some a) (r : ORep K ρ (upd H a u) a b') : Sim K ρ (upd H a u) (μ.put n b') := by
  have lu : Lv (some u) := by
    obtain ⟨u', e1, _, _, _, e2⟩ := r.some
    rw [upd_same] at e1
    rw [e1]; exact e2
  have x := Ext.write (u := u) S hb ha lu
  refine ⟨by rw [Sto.sz_put]; exact S.len, S.nd, fun c hc => x.live c (S.live c hc), x.tab S.tabs, fun m c e => ?_⟩
  by_cases hm : m = n
  · subst hm
    rw [Sto.get_put_same _ _ _ (Sto.get_lt hb)] at e
    cases e
    exact ⟨a, ha, r⟩
  · rw [Sto.get_put_ne _ _ hm] at e
    obtain ⟨a', e1, r'⟩ := S.obj m c e
    refine ⟨a', e1, r'.ext x ?_⟩
    rw [upd_ne]
    intro z
    subst z
    exact hm (nodup_at S.nd e1 ha)

end
/-! ### an object under hands that the store does not know yet -/
section
variable {K : PySem.W.Frag} {ρ ρ' : List Addr} {H H' : Hp} {p : Addr} {u o : HO}
theorem Ex0.hand (e : H p = some u) (m : Mut (some u)) (nk : ¬ Keep u) : Ex0 K ρ H ρ (upd H p o) :=
  ⟨⟨[], by simp⟩, fun a vs t => upd_sqT (fun xs z => by rw [e] at z; cases z; exact m) (fun o' w z => by rw [e] at z; cases z; exact m) t, fun a o' w z => by
    rw [upd_ne (show a ≠ p from fun q => by rw [q, e] at z; cases z; exact m)]; exact z, fun a o' k z => by
    rw [upd_ne (show a ≠ p from fun q => by rw [q, e] at z; rw [Option.some.inj z] at nk; exact nk k)]; exact z⟩
theorem Mut.nt {u : HO} (m : Mut (some u)) (ps : Array Value) : u ≠ .tbl ps := fun z => by rw [z] at m; exact m
theorem Ext.hand (x : Ext K ρ H ρ' H') (h : H p = none) (e : H' p = some u) (m : Mut (some u)) (nk : ¬ Keep u) (lo : Lv (some o)) : Ext K ρ H ρ' (upd H' p o) := by
  have y := Ex0.hand (K := K) (ρ := ρ') (o := o) e m nk
  refine ⟨x.pre, fun a vs t => y.tup a vs (x.tup a vs t), fun a o' w z => y.frz a o' w (x.frz a o' w z), fun a o' z hn nt => ?_, fun a z => ?_, fun a o' k z => y.err a o' k (x.err a o' k z), fun t => tab_upd (x.tab t) (.inr ⟨u, e, nk, Mut.nt m⟩)⟩
  · rw [upd_ne (ne_of_none z h)]; exact x.oth a o' z hn nt
  · by_cases q : a = p
    · rw [q, upd_same]; exact lo
    · rw [upd_ne q]; exact x.live a z
theorem Sim.hand {μ : Sto} (S : Sim K ρ H μ) (e : H p = some u) (m : Mut (some u)) (nk : ¬ Keep u) (hn : p ∉ ρ) : Sim K ρ (upd H p o) μ := by
  have ne : ∀ a ∈ ρ, a ≠ p := fun a ha z => hn (z ▸ ha)
  refine ⟨S.len, S.nd, fun a ha => by rw [upd_ne (ne a ha)]; exact S.live a ha, tab_upd S.tabs (.inr ⟨u, e, nk, Mut.nt m⟩), fun n b h => ?_⟩
  obtain ⟨a, e1, r⟩ := S.obj n b h
  exact ⟨a, e1, r.ext0 (Ex0.hand e m nk) (by rw [upd_ne (ne a (List.mem_of_getElem? e1))])⟩
theorem Ext.notIn (x : Ext K ρ H ρ' H') (e : Lv (H p)) (hn : p ∉ ρ) : p ∉ ρ' := by
  obtain ⟨ex, e1, h⟩ := x.pre
  rw [e1]
  intro z
  rcases List.mem_append.mp z with z | z
  · exact hn z
  · exact h p z e
/-- it is handed to the store -/
theorem Sim.adopt {μ : Sto} (S : Sim K ρ H μ) {b : O} (e : Lv (H p)) (hn : p ∉ ρ) (r : ORep K ρ H p b) : Sim K (ρ ++ [p]) H (μ.push b) ∧ Rep K (ρ ++ [p]) H (.obj μ.sz) (.ref p) := by
  have x : Ex0 K ρ H (ρ ++ [p]) H := ⟨⟨[p], rfl⟩, fun _ _ t => t, fun _ _ _ z => z, fun _ _ _ z => z⟩
  have last : (ρ ++ [p])[μ.sz]? = some p := by rw [← S.len, List.getElem?_append_right (Nat.le_refl _), Nat.sub_self]; rfl
  refine ⟨⟨by rw [List.length_append, Sto.sz_push, S.len]; rfl, ?_, fun a ha => ?_, S.tabs, fun n b' h => ?_⟩, ?_⟩
  · refine List.nodup_append.mpr ⟨S.nd, by simp, fun a ha b hb => ?_⟩
    rw [List.mem_singleton.mp hb]
    exact fun z => hn (z ▸ ha)
  · rcases List.mem_append.mp ha with z | z
    · exact S.live a z
    · rw [List.mem_singleton.mp z]; exact e
  · by_cases hm : n = μ.sz
    · subst hm
      rw [Sto.get_push_same] at h
      cases h
      exact ⟨p, last, r.ext0 x rfl⟩
    · rw [Sto.get_push, if_neg hm] at h
      obtain ⟨a, e1, r'⟩ := S.obj n b' h
      exact ⟨a, x.get e1, r'.ext0 x rfl⟩
  · unfold Rep
    exact ⟨p, rfl, last⟩
end

/-! ### frozen lists -/
section
variable {K : PySem.W.Frag} {ρ ρ' : List Addr} {H H' : Hp} {p : Addr} {u o : HO}
/-- a new frozen list -/
theorem Rep.newRol {p : Addr} {ds : List D} {vs : List V} {od : Obj} (h : H p = none) (r : Reps K ρ H ds vs) : Rep K ρ (upd H p (.frz od (.lst vs))) (.rol ds) (.ref p) := by
  unfold Rep
  exact ⟨p, vs, rfl, .inl ⟨od, upd_same⟩, r.ext (Ext.new h)⟩
/-- a list of the store is frozen, its cell given up -/
theorem Sim.freeze {μ : Sto} {n : Nat} {a : Addr} {vs : List V} {ds : List D} {od : Obj} (S : Sim K ρ H μ) (ha : ρ[n]? = some a) (e : H a = some (.lst vs)) (r : Reps K ρ H ds vs) :
    Ext K ρ H ρ (upd H a (.frz od (.lst vs))) ∧ Sim K ρ (upd H a (.frz od (.lst vs))) (μ.del n) ∧ Rep K ρ (upd H a (.frz od (.lst vs))) (.rol ds) (.ref a) := by
  have x0 : Ex0 K ρ H ρ (upd H a (.frz od (.lst vs))) := Ex0.hand (u := .lst vs) e trivial id
  have x : Ext K ρ H ρ (upd H a (.frz od (.lst vs))) := ⟨⟨[], by simp, fun _ z => by cases z⟩, x0.tup, x0.frz, fun c o' q hc _ => by
    rw [upd_ne (show c ≠ a from fun z => hc (by rw [z]; exact List.mem_of_getElem? ha))]; exact q, fun c z => by
      by_cases q : c = a
      · rw [q, upd_same]; trivial
      · rw [upd_ne q]; exact z, x0.err, fun t => tab_upd t (.inr ⟨_, e, id, fun _ z => nomatch z⟩)⟩
  refine ⟨x, ⟨by rw [Sto.sz_del]; exact S.len, S.nd, fun c hc => x.live c (S.live c hc), x.tab S.tabs, fun m b q => ?_⟩, ?_⟩
  · by_cases hm : m = n
    · subst hm
      rw [Sto.get_del_same] at q
      cases q
    · rw [Sto.get_del_ne _ hm] at q
      obtain ⟨c, e1, r'⟩ := S.obj m b q
      refine ⟨c, e1, r'.ext x ?_⟩
      rw [upd_ne]
      intro z
      subst z
      exact hm (nodup_at S.nd e1 ha)
  · unfold Rep
    exact ⟨a, vs, rfl, .inl ⟨od, upd_same⟩, r.ext x⟩
end
/-! ### what mentions only the first cells -/
mutual
def closedD (k : Nat) : D → Bool
  | .non => true
  | .bl _ => true
  | .int _ => true
  | .str _ => true
  | .rep _ => true
  | .tup ds => closedDs k ds
  | .rol ds => closedDs k ds
  | .obj n => decide (n < k)
  | .err _ d => closedD k d
def closedDs (k : Nat) : List D → Bool
  | [] => true
  | d :: ds => closedD k d && closedDs k ds
end
def closedO (k : Nat) : O → Bool
  | .lst ds => closedDs k ds
  | .dK kvs => closedDs k (kvs.map (·.2))
  | .dT kvs => closedDs k (kvs.map (·.2))
  | .ins _ fs => closedDs k (fs.map (·.2))
section
variable {K : PySem.W.Frag} {ρ ex : List Addr} {H H' : Hp}
mutual
theorem Rep.front : ∀ (d : D) (v : V), closedD ρ.length d = true → Rep K (ρ ++ ex) H d v → Rep K ρ H d v
  | .non, v, _, h => by unfold Rep at h ⊢; exact h
  | .bl b, v, _, h => by unfold Rep at h ⊢; exact h
  | .int i, v, _, h => by unfold Rep at h ⊢; exact h
  | .str s, v, _, h => by unfold Rep at h ⊢; exact h
  | .rep s, v, _, h => by unfold Rep at h ⊢; exact h
  | .tup ds, v, c, h => by
    unfold Rep at h ⊢
    unfold closedD at c
    obtain ⟨a, vs, e, t, r⟩ := h
    exact ⟨a, vs, e, t, Reps.front ds vs c r⟩
  | .rol ds, v, c, h => by
    unfold Rep at h ⊢
    unfold closedD at c
    obtain ⟨a, vs, e, t, r⟩ := h
    exact ⟨a, vs, e, t, Reps.front ds vs c r⟩
  | .obj n, v, c, h => by
    unfold Rep at h ⊢
    unfold closedD at c
    obtain ⟨a, e, t⟩ := h
    exact ⟨a, e, by rw [List.getElem?_append_left (of_decide_eq_true c)] at t; exact t⟩
  | .err k d, v, c, h => by
    unfold Rep at h ⊢
    unfold closedD at c
    obtain ⟨a, dx, w, e, h1, h2, r⟩ := h
    exact ⟨a, dx, w, e, h1, h2, Rep.front d w c r⟩
theorem Reps.front : ∀ (ds : List D) (vs : List V), closedDs ρ.length ds = true → Reps K (ρ ++ ex) H ds vs → Reps K ρ H ds vs
  | [], vs, _, h => by unfold Reps at h ⊢; exact h
  | d :: ds, vs, c, h => by
    unfold Reps at h ⊢
    unfold closedDs at c
    rw [Bool.and_eq_true] at c
    obtain ⟨v, r, e, h1, h2⟩ := h
    exact ⟨v, r, e, Rep.front d v c.1 h1, Reps.front ds r c.2 h2⟩
end
mutual
theorem Rep.closed : ∀ (d : D) (v : V), Rep K ρ H d v → closedD ρ.length d = true
  | .non, _, _ => rfl
  | .bl _, _, _ => rfl
  | .int _, _, _ => rfl
  | .str _, _, _ => rfl
  | .rep _, _, _ => rfl
  | .tup ds, v, h => by
    unfold Rep at h
    obtain ⟨a, vs, e, t, r⟩ := h
    unfold closedD
    exact Reps.closed ds vs r
  | .rol ds, v, h => by
    unfold Rep at h
    obtain ⟨a, vs, e, t, r⟩ := h
    unfold closedD
    exact Reps.closed ds vs r
  | .obj n, v, h => by
    unfold Rep at h
    obtain ⟨a, e, t⟩ := h
    unfold closedD
    exact decide_eq_true (List.getElem?_eq_some_iff.mp t).1
  | .err k d, v, h => by
    unfold Rep at h
    obtain ⟨a, dx, w, e, h1, h2, r⟩ := h
    unfold closedD
    exact Rep.closed d w r
theorem Reps.closed : ∀ (ds : List D) (vs : List V), Reps K ρ H ds vs → closedDs ρ.length ds = true
  | [], _, _ => rfl
  | d :: ds, vs, h => by
    unfold Reps at h
    obtain ⟨v, r, e, h1, h2⟩ := h
    unfold closedDs
    rw [Rep.closed d v h1, Reps.closed ds r h2]
    rfl
end
theorem Kvs.front {κ : Type} : ∀ {ps : List (κ × D)} {us : List (κ × V)}, closedDs ρ.length (ps.map (·.2)) = true → Kvs (Rep K (ρ ++ ex) H) ps us → Kvs (Rep K ρ H) ps us
  | [], _, _, h => h
  | p :: ps, _, c, ⟨u, r, e, h1, h2⟩ => by
    rw [List.map_cons] at c
    unfold closedDs at c
    rw [Bool.and_eq_true] at c
    exact ⟨u, r, e, Rep.front _ _ c.1 h1, Kvs.front c.2 h2⟩
theorem Kvs.closed {κ : Type} : ∀ {ps : List (κ × D)} {us : List (κ × V)}, Kvs (Rep K ρ H) ps us → closedDs ρ.length (ps.map (·.2)) = true
  | [], _, _ => rfl
  | p :: ps, _, ⟨u, r, e, h1, h2⟩ => by
    rw [List.map_cons]
    unfold closedDs
    rw [Rep.closed _ _ h1, Kvs.closed h2]
    rfl
theorem ORep.front {a : Addr} {o : O} (c : closedO ρ.length o = true) (h : ORep K (ρ ++ ex) H a o) : ORep K ρ H a o := by
  cases o with
  | lst ds => obtain ⟨vs, e, r⟩ := h; exact ⟨vs, e, Reps.front _ _ c r⟩
  | dK kvs => obtain ⟨vs, e, r⟩ := h; exact ⟨vs, e, Kvs.front c r⟩
  | dT kvs => obtain ⟨vs, e, r⟩ := h; exact ⟨vs, e, Kvs.front c r⟩
  | ins k fs => obtain ⟨dx, vs, e, r⟩ := h; exact ⟨dx, vs, e, Kvs.front c r⟩
theorem ORep.closed {a : Addr} {o : O} (h : ORep K ρ H a o) : closedO ρ.length o = true := by
  cases o with
  | lst ds => obtain ⟨vs, e, r⟩ := h; exact Reps.closed _ _ r
  | dK kvs => obtain ⟨vs, e, r⟩ := h; exact Kvs.closed r
  | dT kvs => obtain ⟨vs, e, r⟩ := h; exact Kvs.closed r
  | ins k fs => obtain ⟨dx, vs, e, r⟩ := h; exact Kvs.closed r
end
/-! ### plain data off the store -/
def pyL (g : D → Option PyData) : List D → Option (List PyData)
  | [] => some []
  | d :: ds => match g d, pyL g ds with
    | some p, some ps => some (p :: ps)
    | _, _ => none
def toPy (μ : Sto) : Nat → D → Option PyData
  | 0, _ => none
  | f + 1, d => match d with
    | .non => some .none
    | .bl b => some (.bool b)
    | .int i => some (.int i)
    | .str x => some (.str x)
    | .tup ds => (pyL (toPy μ f) ds).map .tuple
    | .rol ds => (pyL (toPy μ f) ds).map .list
    | .obj n => match μ.get n with
      | some (.lst ds) => (pyL (toPy μ f) ds).map .list
      | _ => none
    | .rep _ => none
    | .err _ _ => none
section
variable {K : PySem.W.Frag} {ρ : List Addr} {H : Hp} {μ : Sto}
theorem pyL_dp {g : D → Option PyData} (h : ∀ d v p, Rep K ρ H d v → g d = some p → Dp K H v p) : ∀ {ds : List D} {vs : List V} {ps : List PyData}, Reps K ρ H ds vs → pyL g ds = some ps → DpAll K H vs ps
  | [], _, ps, r, e => by
    rw [r.unnil]
    unfold pyL at e
    cases e
    exact .nil
  | d :: ds, _, ps, r, e => by
    obtain ⟨v, r', rfl, hv, t⟩ := r.uncons
    unfold pyL at e
    cases e1 : g d with
    | none => rw [e1] at e; cases e
    | some p =>
      cases e2 : pyL g ds with
      | none => rw [e1, e2] at e; cases e
      | some ps' =>
        rw [e1, e2] at e
        cases e
        exact .cons (h d v p hv e1) (pyL_dp h t e2)
theorem toPy_dp (S : Sim K ρ H μ) : ∀ (f : Nat) (d : D) (v : V) (p : PyData), Rep K ρ H d v → toPy μ f d = some p → Dp K H v p
  | 0, d, v, p, _, e => by unfold toPy at e; cases e
  | f + 1, d, v, p, r, e => by
    unfold toPy at e
    cases d with
    | non => unfold Rep at r; cases e; subst r; exact .non
    | bl b => unfold Rep at r; cases e; subst r; exact .bl b
    | int i => unfold Rep at r; cases e; subst r; exact .int i
    | str x => unfold Rep at r; cases e; subst r; exact .str x
    | tup ds =>
      unfold Rep at r
      obtain ⟨a, vs, rfl, t, rs⟩ := r
      cases e1 : pyL (toPy μ f) ds with
      | none => simp only [e1] at e; cases e
      | some ps =>
        simp only [e1] at e
        cases e
        exact .tup t (pyL_dp (toPy_dp S f) rs e1)
    | rol ds =>
      unfold Rep at r
      obtain ⟨a, vs, rfl, t, rs⟩ := r
      cases e1 : pyL (toPy μ f) ds with
      | none => simp only [e1] at e; cases e
      | some ps =>
        simp only [e1] at e
        cases e
        exact .lst t.sq (pyL_dp (toPy_dp S f) rs e1)
    | obj n =>
      unfold Rep at r
      obtain ⟨a, rfl, ha⟩ := r
      cases eo : μ.get n with
      | none => simp only [eo] at e; cases e
      | some o =>
        obtain ⟨a', ea, ro⟩ := S.obj n o eo
        rw [ha] at ea
        cases ea
        simp only [eo] at e
        cases o with
        | lst ds =>
          obtain ⟨vs, e2, rs⟩ := ro
          cases e1 : pyL (toPy μ f) ds with
          | none => simp only [e1] at e; cases e
          | some ps =>
            simp only [e1] at e
            cases e
            exact .lst (.of e2) (pyL_dp (toPy_dp S f) rs e1)
        | _ => cases e
    | rep p => cases e
    | err c d => cases e
end

/-! ### readings by functions -/
abbrev XW := Value → Option Addr → Hp → Prop
def PostX (K : PySem.W.Frag) (ρ : List Addr) (H : Hp) (c : Str) (d : D) (μ' : Sto) (W : XW) : Prop :=
  ∀ ρ' H' dx v, Ext K ρ H ρ' H' → Sim K ρ' H' μ' → Rep K ρ' H' d v → H' dx = some (.xd [("value", v)]) → W (.ref (He.ga K c)) (some dx) H'
/-- what is wanted of an outcome: R tells how a result shows -/
def Fin {α β : Type} (R : List Addr → Hp → α → β → Prop) (W : XW) (K : PySem.W.Frag) (ρ : List Addr) (H : Hp) (out : Out α) (Q : β → Hp → Prop) : Prop := match out with
  | .ok d μ' => ∀ ρ' H' v, Ext K ρ H ρ' H' → Sim K ρ' H' μ' → R ρ' H' d v → Q v H'
  | .exc c d μ' => PostX K ρ H c d μ' W
  | .no => False
abbrev rB : List Addr → Hp → Bool → Bool → Prop := fun _ _ a b => a = b
abbrev En := List (Option D)
structure EnvR (K : PySem.W.Frag) (ρ : List Addr) (H : Hp) (env : En) (σ : L2.St) : Prop where
  len : env.length = σ.length
  val : ∀ (i : Nat) (d : D), env[i]? = some (some d) → ∃ v : V, σ[i]? = some (some v) ∧ Rep K ρ H d v
section
variable {K : PySem.W.Frag} {ρ ρ' : List Addr} {H H' : Hp} {env : En} {σ : L2.St} {W : XW} {α β α' β' : Type} {R : List Addr → Hp → α → β → Prop} {R' : List Addr → Hp → α' → β' → Prop}
theorem EnvR.ext (x : Ext K ρ H ρ' H') (r : EnvR K ρ H env σ) : EnvR K ρ' H' env σ := ⟨r.len, fun i d h => let ⟨v, e, q⟩ := r.val i d h; ⟨v, e, q.ext x⟩⟩
theorem EnvR.set (r : EnvR K ρ H env σ) {i : Nat} {d : D} {v : V} (h : Rep K ρ H d v) : EnvR K ρ H (env.set i (some d)) (σ.set i (some v)) := by
  refine ⟨by rw [List.length_set, List.length_set]; exact r.len, fun j e hj => ?_⟩
  by_cases hi : i = j
  · subst hi
    have hl : i < env.length := by
      rcases Nat.lt_or_ge i env.length with z | z
      · exact z
      · rw [List.getElem?_eq_none_iff.mpr (by rw [List.length_set]; exact z)] at hj; cases hj
    rw [List.getElem?_set_self hl] at hj
    have e' : d = e := Option.some.inj (Option.some.inj hj)
    subst e'
    exact ⟨v, List.getElem?_set_self (by rw [← r.len]; exact hl), h⟩
  · rw [List.getElem?_set_ne hi] at hj
    obtain ⟨u, e1, e2⟩ := r.val j e hj
    exact ⟨u, by rw [List.getElem?_set_ne hi]; exact e1, e2⟩
theorem Fin.ext (x : Ext K ρ H ρ' H') {out : Out α} {Q : β → Hp → Prop} (h : Fin R W K ρ H out Q) : Fin R W K ρ' H' out Q := by
  cases out with
  | ok d μ => exact fun ρ2 H2 v y s r => h ρ2 H2 v (x.trans y) s r
  | exc c d μ => exact fun ρ2 H2 dx v y s r z => h ρ2 H2 dx v (x.trans y) s r z
  | no => exact h
theorem Fin.mono {out : Out α} {Q Q' : β → Hp → Prop} (h : Fin R W K ρ H out Q) (f : ∀ v H', Q v H' → Q' v H') : Fin R W K ρ H out Q' := by
  cases out with
  | ok d μ => exact fun ρ' H' v x s r => f _ _ (h ρ' H' v x s r)
  | exc c d μ => exact h
  | no => exact h
theorem Fin.bind {out : Out α} {k : α → Sto → Out α'} {Q : β' → Hp → Prop} {Q1 : β → Hp → Prop} (h : Fin R' W K ρ H (out.bind k) Q)
    (hk : ∀ d μ1 ρ1 H1 v, Ext K ρ H ρ1 H1 → Sim K ρ1 H1 μ1 → R ρ1 H1 d v → Fin R' W K ρ1 H1 (k d μ1) Q → Q1 v H1) : Fin R W K ρ H out Q1 := by
  cases out with
  | ok d μ => exact fun ρ' H' v x s r => hk d μ ρ' H' v x s r (Fin.ext x h)
  | exc c d μ => exact h
  | no => exact h
/-- an outcome that is there is taken -/
theorem Fin.now {d : α} {μ : Sto} {v : β} {Q : β → Hp → Prop} (h : Fin R W K ρ H (.ok d μ) Q) (S : Sim K ρ H μ) (r : R ρ H d v) : Q v H := h ρ H v Ext.refl S r
end
abbrev Dn := En → Sto → Out D
/-- weaker readings -/
theorem pe_imp {X : Cx} {e : Expr} {t t' : TE} (h : PE X e t) (f : ∀ σ H Q, t' σ H Q → t σ H Q) : PE X e t' := ⟨fun pins s σ H Q I q => h.run pins s σ H Q I (f σ H Q q)⟩
theorem pt_imp {X : Cx} {e : Expr} {t t' : TT} (h : PT X e t) (f : ∀ σ H Q, t' σ H Q → t σ H Q) : PT X e t' := ⟨fun pins s σ H Q I q => h.run pins s σ H Q I (f σ H Q q)⟩
theorem pw_imp {X : Cx} {e : Expr} {t t' : TT} (h : PW X e t) (f : ∀ σ H Q, t' σ H Q → t σ H Q) : PW X e t' := ⟨fun wh pins s σ H Q I q => h.run wh pins s σ H Q I (f σ H Q q)⟩
theorem pa_imp {X : Cx} {e : List Expr} {t t' : TA} (h : PA X e t) (f : ∀ σ H Q, t' σ H Q → t σ H Q) : PA X e t' := ⟨fun pos pins s σ H Q I q => h.run pos pins s σ H Q I (f σ H Q q)⟩
theorem ps_imp {X : Cx} {e : Stmt} {t t' : TS} (h : PS X e t) (f : ∀ D σ H, t' D σ H → t D σ H) : PS X e t' := ⟨fun pins s σ H D I q => h.run pins s σ H D I (f D σ H q)⟩
theorem pss_imp {X : Cx} {e : List Stmt} {t t' : TS} (h : PSs X e t) (f : ∀ D σ H, t' D σ H → t D σ H) : PSs X e t' := ⟨fun pins s σ H D I q => h.run pins s σ H D I (f D σ H q)⟩
end Rf


set_option Elab.async false
set_option linter.all false
set_option maxRecDepth 100000
set_option maxHeartbeats 2000000
/-! Rf, part B: the syntax, the interpreter. -/
namespace Rf
open PySem PySem.Spec PyProof.Rows L2

/-! ### operations on data -/
@[irreducible] def BIG : Nat := 2 ^ 1000000
theorem BIG_eq : BIG = 2 ^ 1000000 := by unfold BIG; rfl
def small (i : Int) : Bool := decide (i.natAbs < BIG)
@[irreducible] def MID : Nat := 2 ^ 8000
theorem MID_eq : MID = 2 ^ 8000 := by unfold MID; rfl
def mid (i : Int) : Bool := decide (i.natAbs < MID)
def LIM : Nat := 1000000
/-- what a list holds -/
def seqOf (μ : Sto) : D → Option (List D)
  | .tup ds => some ds
  | .rol ds => some ds
  | .obj n => match μ.get n with
    | some (.lst ds) => some ds
    | _ => none
  | _ => none
def newL (μ : Sto) (ds : List D) : D × Sto := (.obj μ.sz, μ.push (.lst ds))
def newR (μ : Sto) (ds : List D) : D × Sto := (.rol ds, μ)
def catD (μ : Sto) (xs ys : List D) : Option (D × Sto) := if xs.length + ys.length ≤ LIM then some (newR μ (xs ++ ys)) else none
def binD : Operator → D → D → Sto → Option (D × Sto)
  | .Add, .int i, .int j, μ => some (.int (i + j), μ)
  | .Add, .int i, .bl b, μ => some (.int (i + b2i b), μ)
  | .Add, .str x, .str y, μ => if x.length + y.length ≤ LIM then some (.str (x ++ y), μ) else none
  | .Add, .tup xs, .tup ys, μ => if xs.length + ys.length ≤ LIM then some (.tup (xs ++ ys), μ) else none
  | .Add, .rol xs, .rol ys, μ => catD μ xs ys
  | .Add, .obj n, .rol ys, μ => (seqOf μ (.obj n)).bind fun xs => catD μ xs ys
  | .Add, .rol xs, .obj m, μ => (seqOf μ (.obj m)).bind fun ys => catD μ xs ys
  | .Add, .obj n, .obj m, μ => (seqOf μ (.obj n)).bind fun xs => (seqOf μ (.obj m)).bind fun ys => catD μ xs ys
  | .Sub, .int i, .int j, μ => some (.int (i - j), μ)
  | .Mult, .int i, .int j, μ => if small i && small j then some (.int (i * j), μ) else none
  | .FloorDiv, .int i, .int j, μ => if decide (j ≠ 0) && mid j then some (.int (i.fdiv j), μ) else none
  | .Mod, .int i, .int j, μ => if j ≠ 0 then some (.int (i.fmod j), μ) else none
  | .Pow, .int i, .int j, μ => if decide (0 ≤ j) && decide (j ≤ 10000) && mid i then some (.int (i ^ j.toNat), μ) else none
  | _, _, _, _ => none
def negD : D → Option D
  | .int i => some (.int (-i))
  | _ => none
mutual
def samePy : PyData → PyData → Bool
  | .none, .none => true
  | .bool a, .bool b => a == b
  | .int a, .int b => a == b
  | .str a, .str b => decide (a = b)
  | .list a, .list b => samePys a b
  | .tuple a, .tuple b => samePys a b
  | .dict a, .dict b => samePyK a b
  | _, _ => false
def samePys : List PyData → List PyData → Bool
  | [], [] => true
  | x :: xs, y :: ys => samePy x y && samePys xs ys
  | _, _ => false
def samePyK : List (PyData × PyData) → List (PyData × PyData) → Bool
  | [], [] => true
  | (k, v) :: xs, (l, w) :: ys => samePy k l && samePy v w && samePyK xs ys
  | _, _ => false
end
mutual
theorem samePy_to : ∀ p q : PyData, samePy p q = true → p = q
  | .none, q, h => by cases q <;> first | rfl | (unfold samePy at h; cases h)
  | .bool a, q, h => by cases q <;> first | (unfold samePy at h; rw [beq_iff_eq.mp h]) | (unfold samePy at h; cases h)
  | .int a, q, h => by cases q <;> first | (unfold samePy at h; rw [beq_iff_eq.mp h]) | (unfold samePy at h; cases h)
  | .str a, q, h => by cases q <;> first | (unfold samePy at h; rw [of_decide_eq_true h]) | (unfold samePy at h; cases h)
  | .list a, q, h => by cases q <;> first | (unfold samePy at h; rw [samePys_to _ _ h]) | (unfold samePy at h; cases h)
  | .tuple a, q, h => by cases q <;> first | (unfold samePy at h; rw [samePys_to _ _ h]) | (unfold samePy at h; cases h)
  | .dict a, q, h => by cases q <;> first | (unfold samePy at h; rw [samePyK_to _ _ h]) | (unfold samePy at h; cases h)
theorem samePys_to : ∀ p q : List PyData, samePys p q = true → p = q
  | [], q, h => by cases q <;> first | rfl | (unfold samePys at h; cases h)
  | x :: xs, q, h => by
    cases q with
    | nil => unfold samePys at h; cases h
    | cons y ys =>
      unfold samePys at h
      rw [Bool.and_eq_true] at h
      rw [samePy_to x y h.1, samePys_to xs ys h.2]
theorem samePyK_to : ∀ p q : List (PyData × PyData), samePyK p q = true → p = q
  | [], q, h => by cases q <;> first | rfl | (unfold samePyK at h; cases h)
  | (k, v) :: xs, q, h => by
    cases q with
    | nil => unfold samePyK at h; cases h
    | cons y ys =>
      obtain ⟨l, w⟩ := y
      unfold samePyK at h
      rw [Bool.and_eq_true, Bool.and_eq_true] at h
      rw [samePy_to k l h.1.1, samePy_to v w h.1.2, samePyK_to xs ys h.2]
end
mutual
theorem samePy_self : ∀ p : PyData, samePy p p = true
  | .none => rfl
  | .bool a => by unfold samePy; exact beq_self_eq_true a
  | .int a => by unfold samePy; exact beq_self_eq_true a
  | .str a => by unfold samePy; exact decide_eq_true rfl
  | .list a => by unfold samePy; exact samePys_self a
  | .tuple a => by unfold samePy; exact samePys_self a
  | .dict a => by unfold samePy; exact samePyK_self a
theorem samePys_self : ∀ p : List PyData, samePys p p = true
  | [] => rfl
  | x :: xs => by unfold samePys; rw [samePy_self x, samePys_self xs]; rfl
theorem samePyK_self : ∀ p : List (PyData × PyData), samePyK p p = true
  | [] => rfl
  | (k, v) :: xs => by unfold samePyK; rw [samePy_self k, samePy_self v, samePyK_self xs]; rfl
end
theorem samePy_eq : (∀ p q : PyData, samePy p q = true → p = q) ∧ ∀ ps qs : List PyData, samePys ps qs = true → ps = qs := ⟨samePy_to, samePys_to⟩
def FU : Nat := 40
def eqD (μ : Sto) : D → D → Option Bool
  | .int i, .int j => some (decide (i = j))
  | .non, .non => some true
  | .bl a, .bl b => some (decide (a = b))
  | .str a, .str b => some (decide (a = b))
  | .rep p, .rep q => if samePy p q then some true else none
  | d, e => match toPy μ FU d, toPy μ FU e with
    | some p, some q => if SeqAt.shaped p && SeqAt.shaped q then some (PyData.eqv p q) else none
    | _, _ => none
/-- a number among numbers, a text among texts -/
def inD : D → List D → Option Bool
  | .int _, [] => some false
  | .str _, [] => some false
  | .int i, .int j :: r => (inD (.int i) r).map fun b => (j == i) || b
  | .str x, .str y :: r => (inD (.str x) r).map fun b => (y == x) || b
  | _, _ => none
def cmpD (μ : Sto) : CmpOp → D → D → Option Bool
  | .Lt, .int i, .int j => some (decide (i < j))
  | .LtE, .int i, .int j => some (decide (i ≤ j))
  | .Gt, .int i, .int j => some (decide (j < i))
  | .GtE, .int i, .int j => some (decide (j ≤ i))
  | .Eq, d, e => eqD μ d e
  | .NotEq, d, e => (eqD μ d e).map not
  | .In, d, e => (seqOf μ e).bind (inD d)
  | .NotIn, d, e => ((seqOf μ e).bind (inD d)).map not
  | _, _, _ => none
def truD (μ : Sto) : D → Option Bool
  | .non => some false
  | .bl b => some b
  | .int i => some (i != 0)
  | .str x => if x.length ≤ LIM then some ((x.length : Int) != 0) else none
  | .tup ds => some (!ds.isEmpty)
  | .rol ds => some (!ds.isEmpty)
  | .rep _ => none
  | .err _ _ => none
  | .obj n => match μ.get n with
    | some (.lst ds) => some (!ds.isEmpty)
    | some (.dK kvs) => some (!kvs.isEmpty)
    | _ => none
def idxD (μ : Sto) : D → D → Option D
  | .str x, .int i => if x.length ≤ LIM then (atI x.cps.toList i).map fun c => .str ⟨#[c]⟩ else none
  | d, .int i => (seqOf μ d).bind fun ds => atI ds i
  | _, _ => none
/-- a part of a list -/
def cutD (ds : List D) (lo hi : Option Int) : List D := (ds.drop (HT.sIx ds.length 0 lo)).take (HT.sIx ds.length ds.length hi - HT.sIx ds.length 0 lo)
def slcD (μ : Sto) (lo hi : Option Int) : D → Option (D × Sto)
  | .tup ds => some (.tup (cutD ds lo hi), μ)
  | .rol ds => some (newR μ (cutD ds lo hi))
  | .obj n => match μ.get n with
    | some (.lst ds) => some (newR μ (cutD ds lo hi))
    | _ => none
  | .str x => if x.length ≤ LIM then some (.str (cutS x lo hi), μ) else none
  | _ => none
/-- an optional bound -/
def bndD : D → Option (Option Int)
  | .int i => some (some i)
  | _ => none

/-! ### built-ins -/
inductive Bt where
  | len | abs | int | min2 | max2 | tuple | list | listM | sum | all | any | maxL | minL | max3
  deriving DecidableEq
def intsOf : List D → Option (List Int)
  | [] => some []
  | .int i :: r => (intsOf r).map (i :: ·)
  | _ => none
def blsOf : List D → Option (List Bool)
  | [] => some []
  | .bl b :: r => (blsOf r).map (b :: ·)
  | _ => none
def isLst (μ : Sto) : D → Bool
  | .rol _ => true
  | .obj n => match μ.get n with
    | some (.lst _) => true
    | _ => false
  | _ => false
def lenF (μ : Sto) : List D → Option (D × Sto)
  | [d] => match d with
    | .str x => if x.length ≤ LIM then some (.int x.length, μ) else none
    | d => (seqOf μ d).map fun ds => (.int ds.length, μ)
  | _ => none
def absF (μ : Sto) : List D → Option (D × Sto)
  | [.int i] => some (.int (if i < 0 then -i else i), μ)
  | _ => none
def intF (μ : Sto) : List D → Option (D × Sto)
  | [.int i] => some (.int i, μ)
  | [.bl b] => some (.int (b2i b), μ)
  | _ => none
def twoF (g : Int → Int → Int) (μ : Sto) : List D → Option (D × Sto)
  | [.int i, .int j] => some (.int (g i j), μ)
  | _ => none
def threeF (g : Int → Int → Int → Int) (μ : Sto) : List D → Option (D × Sto)
  | [.int i, .int j, .int k] => some (.int (g i j k), μ)
  | _ => none
def mx (i j : Int) : Int := if i < j then j else i
def mn (i j : Int) : Int := if j < i then j else i
def maxI : List Int → Option Int
  | [] => none
  | x :: xs => some (xs.foldl mx x)
def minI : List Int → Option Int
  | [] => none
  | x :: xs => some (xs.foldl mn x)
def oneF (g : D → Option (D × Sto)) : List D → Option (D × Sto)
  | [d] => g d
  | _ => none
def bltD (μ : Sto) : Bt → List D → Option (D × Sto)
  | .len => lenF μ
  | .abs => absF μ
  | .int => intF μ
  | .min2 => twoF (fun i j => if j < i then j else i) μ
  | .max2 => twoF (fun i j => if j > i then j else i) μ
  | .tuple => oneF fun d => (seqOf μ d).map fun ds => (.tup ds, μ)
  | .list => oneF fun d => (seqOf μ d).map fun ds => newR μ ds
  | .listM => oneF fun d => (seqOf μ d).map fun ds => newL μ ds
  | .sum => oneF fun d => if isLst μ d then ((seqOf μ d).bind intsOf).map fun ns => (.int ns.sum, μ) else none
  | .all => oneF fun d => if isLst μ d then ((seqOf μ d).bind blsOf).map fun bs => (.bl (bs.all id), μ) else none
  | .maxL => oneF fun d => if isLst μ d then (((seqOf μ d).bind intsOf).bind maxI).map fun n => (.int n, μ) else none
  | .minL => oneF fun d => if isLst μ d then (((seqOf μ d).bind intsOf).bind minI).map fun n => (.int n, μ) else none
  | .max3 => threeF (fun i j k => mx (mx i j) k) μ
  | .any => oneF fun d => if isLst μ d then ((seqOf μ d).bind blsOf).map fun bs => (.bl (bs.any id), μ) else none
inductive Ty where
  | int | bool | str | tuple | list | dict
  deriving DecidableEq
def Ty.name : Ty → String
  | .int => "int" | .bool => "bool" | .str => "str" | .tuple => "tuple" | .list => "list" | .dict => "dict"
/-- the built-in type of data -/
def typD (μ : Sto) : D → Option String
  | .non => some "NoneType"
  | .bl _ => some "bool"
  | .int _ => some "int"
  | .str _ => some "str"
  | .tup _ => some "tuple"
  | .rol _ => some "list"
  | .rep _ => some "str"
  | .err _ _ => none
  | .obj n => match μ.get n with
    | some (.lst _) => some "list"
    | some (.dK _) => some "dict"
    | some (.dT _) => some "dict"
    | _ => none
def isiS : String → Ty → Bool
  | "bool", .int => true
  | s, t => s == t.name
def isiD (μ : Sto) (d : D) (t : Ty) : Option Bool := (typD μ d).map fun s => isiS s t
/-- data whose repr is within the lines -/
def SHOW : Nat := 10 ^ 570
mutual
def leafOk : PyData → Bool
  | .none => true
  | .bool _ => true
  | .int i => decide (i.natAbs < SHOW)
  | .str x => x.cps.toList.all fun c => decide (c < 16 ^ 8)
  | .list xs => leafsOk xs
  | .tuple xs => leafsOk xs
  | .dict _ => false
def leafsOk : List PyData → Bool
  | [] => true
  | x :: r => leafOk x && leafsOk r
end
mutual
def lenB : PyData → Nat
  | .none => 5
  | .bool _ => 5
  | .int _ => 600
  | .str x => 10 * x.length + 2
  | .list xs => lensB xs + 3
  | .tuple xs => lensB xs + 3
  | .dict _ => 0
def lensB : List PyData → Nat
  | [] => 0
  | x :: r => lenB x + 2 + lensB r
end
def okShow (p : PyData) : Bool := leafOk p && decide (lenB p ≤ 16000000) && decide (p.depth ≤ 60)
/-! ### syntax -/
/-- targets -/
inductive Tg where
  | nm (i : Nat) | tp (ts : List Tg)
mutual
inductive E where
  | var (i : Nat) | cst (d : D) | glo (x : Str) (d : D)
  | tup (es : Es) | lst (es : Es) | tupS (fs : Fs) | lstS (fs : Fs)
  | bin (op : Operator) (a b : E) | neg (a : E) | not (a : E)
  | cmp (op : CmpOp) (a b : E) | isN (ng : Bool) (a : E) | chn (o1 o2 : CmpOp) (a b c : E)
  | and (a b : E) | or (a b : E) | ife (c a b : E)
  | idx (a i : E) | slc (a : E) (lo hi : Eo)
  | cal (f : Str) (es : Es) | blt (b : Bt) (es : Es) | isi (a : E) (t : Ty) | lrg (es : Es)
  | rpr (a : E) | frz (a : E) | mls (es : Es)
  | isB (ng k : Bool) (a : E) | rev (a : E)
  | hrd (es : List Str) (a : E) | isE (es : List Str) (a : E) (x : Str) (all : Bool) | fld (es : List Str) (a : E)
  | lcm (t : Tg) (s : Src) (c : Eo) (e : E) (own : List (Str × Nat))
  | mlc (t : Tg) (s : Src) (c : Eo) (e : E) (own : List (Str × Nat))
inductive Es where
  | nil | cons (e : E) (es : Es)
inductive Fs where
  | nil | cons (e : E) (fs : Fs) | star (e : E) (fs : Fs)
inductive Eo where
  | none | some (e : E)
inductive Src where
  | seq (e : E) | rng1 (a : E) | rng2 (a b : E) | zip (a b : E) | enu (a : E)
end

/-! ### walks -/
inductive Wk where
  | itm (ds : List D) | lst (n i : Nat) | zip (n m i : Nat) | enu (n i : Nat) | rng (lo : Int) (n : Nat)
/-- nothing: stuck; no item: the end -/
def Wk.next (μ : Sto) : Wk → Option (Option (D × Wk))
  | .itm [] => some none
  | .itm (d :: ds) => some (some (d, .itm ds))
  | .lst n i => match seqOf μ (.obj n) with
    | some ds => match ds[i]? with
      | some d => some (some (d, .lst n (i + 1)))
      | none => some none
    | none => none
  | .zip n m i => match seqOf μ (.obj n), seqOf μ (.obj m) with
    | some ds, some es => match ds[i]?, es[i]? with
      | some d, some e => some (some (.tup [d, e], .zip n m (i + 1)))
      | _, _ => some none
    | _, _ => none
  | .enu n i => match seqOf μ (.obj n) with
    | some ds => match ds[i]? with
      | some d => some (some (.tup [.int i, d], .enu n (i + 1)))
      | none => some none
    | none => none
  | .rng lo 0 => some none
  | .rng lo (n + 1) => some (some (.int lo, .rng (lo + 1) n))
def zipD : List D → List D → List D
  | d :: ds, e :: es => .tup [d, e] :: zipD ds es
  | _, _ => []
def enuD (i : Nat) : List D → List D
  | d :: ds => .tup [.int i, d] :: enuD (i + 1) ds
  | [] => []
/-- how many turns a walk may have -/
def Wk.fuel (wf : Nat) : Wk → Nat
  | .itm ds => ds.length + 1
  | .rng _ n => n + 1
  | _ => wf
def rngD : List D → Option Wk
  | [.int j] => if decide (-(2 ^ 62) ≤ j) && decide (j < 2 ^ 62) then some (.rng 0 j.toNat) else none
  | [.int i, .int j] => if decide (-(2 ^ 62) ≤ i) && decide (i < 2 ^ 62) && (decide (-(2 ^ 62) ≤ j) && decide (j < 2 ^ 62)) then some (.rng i (j - i).toNat) else none
  | _ => none
mutual
def Tg.slots : Tg → List Nat
  | .nm i => [i]
  | .tp ts => Tg.slotss ts
def Tg.slotss : List Tg → List Nat
  | [] => []
  | t :: ts => Tg.slots t ++ Tg.slotss ts
end
mutual
def Tg.set : Tg → D → En → Option En
  | .nm i, d, env => some (env.set i (some d))
  | .tp ts, .tup ds, env => Tg.sets ts ds env
  | .tp _, _, _ => none
def Tg.sets : List Tg → List D → En → Option En
  | [], [], env => some env
  | t :: ts, d :: ds, env => (Tg.set t d env).bind fun env => Tg.sets ts ds env
  | _, _, _ => none
end
def ofOpt {α : Type} (μ : Sto) : Option α → Out α
  | some a => .ok a μ
  | none => .no
/-- a walk that makes a list; f: what an item gives (none: dropped) -/
def lcD (f : D → Sto → Out (Option D)) : Nat → Wk → List D → Sto → Out (List D)
  | 0, _, _, _ => .no
  | k + 1, J, acc, μ => match J.next μ with
    | none => .no
    | some none => .ok acc μ
    | some (some (d, J')) => match f d μ with
      | .ok (some x) μ' => if acc.length < LIM then lcD f k J' (acc ++ [x]) μ' else .no
      | .ok none μ' => lcD f k J' acc μ'
      | _ => .no
def wipeD (env : En) : List Nat → En
  | [] => env
  | i :: is => (wipeD env is).set i none

/-! ### the interpreter: expressions -/
structure Cl where
  wf : Nat
  call : Str → List D → Sto → Out D
abbrev Dt := En → Sto → Out Bool
/-- the truth of a value -/
def truOf (v : Dn) : Dt := fun env μ => (v env μ).bind fun x μ => ofOpt μ (truD μ x)
def mk (v : Dn) : Dn × Dt := (v, truOf v)
def pyOk (μ : Sto) (x : D) : Option PyData := (toPy μ FU x).bind fun p => if okShow p then some p else none
def rngL (ds : List D) (μ : Sto) : Out D := match rngD ds with
  | some (.rng lo n) => if n ≤ 100000 then lift (some (newR μ ((List.range n).map fun i => .int (lo + (i : Nat))))) else .no
  | _ => .no
def seqI (d : D) (μ : Sto) : Out Wk := match d with
  | .tup ds => .ok (.itm ds) μ
  | .rol ds => .ok (.itm ds) μ
  | .obj n => match seqOf μ (.obj n) with
    | some _ => .ok (.lst n 0) μ
    | none => .no
  | _ => .no
def zipI (x y : D) (μ : Sto) : Out Wk := match x, y with
  | .tup ds, .tup es => .ok (.itm (zipD ds es)) μ
  | .rol ds, .rol es => .ok (.itm (zipD ds es)) μ
  | .obj n, .obj m => match seqOf μ (.obj n), seqOf μ (.obj m) with
    | some _, some _ => .ok (.zip n m 0) μ
    | _, _ => .no
  | _, _ => .no
def enuI (x : D) (μ : Sto) : Out Wk := match x with
  | .rol ds => .ok (.itm (enuD 0 ds)) μ
  | .obj n => match seqOf μ (.obj n) with
    | some _ => .ok (.enu n 0) μ
    | none => .no
  | _ => .no
def isnD (ng : Bool) : D → Bool
  | .non => !ng
  | _ => ng
def varD (i : Nat) : Dn := fun env μ => match env[i]? with
  | some (some d) => .ok d μ
  | _ => .no
def binV (op : Operator) (a b : Dn) : Dn := fun env μ => (a env μ).bind fun x μ => (b env μ).bind fun y μ => lift (binD op x y μ)
def negV (a : Dn) : Dn := fun env μ => (a env μ).bind fun x μ => ofOpt μ (negD x)
def notV (a : Dn) : Dn := fun env μ => (a env μ).bind fun x μ => ofOpt μ ((truD μ x).map fun b => .bl (!b))
def notT (a : Dt) : Dt := fun env μ => (a env μ).bind fun k μ => .ok (!k) μ
def cmpT (op : CmpOp) (a b : Dn) : Dt := fun env μ => (a env μ).bind fun x μ => (b env μ).bind fun y μ => ofOpt μ (cmpD μ op x y)
def cmpV (op : CmpOp) (a b : Dn) : Dn := fun env μ => (a env μ).bind fun x μ => (b env μ).bind fun y μ => ofOpt μ ((cmpD μ op x y).map .bl)
def chnV (o1 o2 : CmpOp) (a b d : Dn) : Dn := fun env μ => (a env μ).bind fun x μ => (b env μ).bind fun y μ => (ofOpt μ (cmpD μ o1 x y)).bind fun k μ =>
  if k then (d env μ).bind fun z μ => ofOpt μ ((cmpD μ o2 y z).map .bl) else .ok (.bl false) μ
def isnV (ng : Bool) (a : Dn) : Dn := fun env μ => (a env μ).bind fun x μ => .ok (.bl (isnD ng x)) μ
def andV (a b : Dn) : Dn := fun env μ => (a env μ).bind fun x μ => (ofOpt μ (truD μ x)).bind fun k μ => if k then b env μ else .ok x μ
def orV (a b : Dn) : Dn := fun env μ => (a env μ).bind fun x μ => (ofOpt μ (truD μ x)).bind fun k μ => if k then .ok x μ else b env μ
def andT (a b : Dt) : Dt := fun env μ => (a env μ).bind fun k μ => if k then b env μ else .ok false μ
def orT (a b : Dt) : Dt := fun env μ => (a env μ).bind fun k μ => if k then .ok true μ else b env μ
def ifeV (t : Dt) (a b : Dn) : Dn := fun env μ => (t env μ).bind fun k μ => if k then a env μ else b env μ
def ifeT (t a b : Dt) : Dt := fun env μ => (t env μ).bind fun k μ => if k then a env μ else b env μ
def idxV (a i : Dn) : Dn := fun env μ => (a env μ).bind fun x μ => (i env μ).bind fun y μ => ofOpt μ (idxD μ x y)
abbrev Ds := En → Sto → Out (List D)
abbrev Do := En → Sto → Out (Option Int)
abbrev Di := En → Sto → Out Wk
def slcV (a : Dn) (lo hi : Do) : Dn := fun env μ => (a env μ).bind fun x μ => (lo env μ).bind fun l μ => (hi env μ).bind fun h μ => lift (slcD μ l h x)
def tupV (es : Ds) : Dn := fun env μ => (es env μ).bind fun ds μ => if ds.length ≤ LIM then .ok (.tup ds) μ else .no
def lstV (es : Ds) : Dn := fun env μ => (es env μ).bind fun ds μ => if ds.length ≤ LIM then lift (some (newR μ ds)) else .no
def mlsV (es : Ds) : Dn := fun env μ => (es env μ).bind fun ds μ => if ds.length ≤ LIM then lift (some (newL μ ds)) else .no
def calV (c : Cl) (f : Str) (es : Ds) : Dn := fun env μ => (es env μ).bind fun ds μ => c.call f ds μ
def bltV (b : Bt) (es : Ds) : Dn := fun env μ => (es env μ).bind fun ds μ => lift (bltD μ b ds)
def isiV (a : Dn) (t : Ty) : Dn := fun env μ => (a env μ).bind fun x μ => ofOpt μ ((isiD μ x t).map .bl)
def lrgV (es : Ds) : Dn := fun env μ => (es env μ).bind rngL
def rprV (a : Dn) : Dn := fun env μ => (a env μ).bind fun x μ => (ofOpt μ (pyOk μ x)).bind fun p μ => .ok (.rep p) μ
def frzD (μ : Sto) : D → Option (D × Sto)
  | .obj n => match μ.get n with
    | some (.lst ds) => some (.rol ds, μ.del n)
    | _ => none
  | _ => none
def frzV (a : Dn) : Dn := fun env μ => (a env μ).bind fun x μ => lift (frzD μ x)
/-- one item of a list's walk -/
def lcTurn (t : Tg) (env : En) (cd : Dt) (e : Dn) (d : D) (μ : Sto) : Out (Option D) := (ofOpt μ (t.set d env)).bind fun env' μ =>
  (cd env' μ).bind fun k μ => if k then (e env' μ).bind fun x μ => .ok (some x) μ else .ok none μ
def lcmV (wf : Nat) (t : Tg) (s : Di) (cd : Dt) (e : Dn) (own : List Nat) : Dn := fun env μ => (s env μ).bind fun J μ => (lcD (lcTurn t (wipeD env own) cd e) (J.fuel wf) J [] μ).bind fun ds μ => lift (some (newR μ ds))
def mlcV (wf : Nat) (t : Tg) (s : Di) (cd : Dt) (e : Dn) (own : List Nat) : Dn := fun env μ => (s env μ).bind fun J μ => (lcD (lcTurn t (wipeD env own) cd e) (J.fuel wf) J [] μ).bind fun ds μ => lift (some (newL μ ds))
def yesT : Dt := fun _ μ => .ok true μ
def nilS : Ds := fun _ μ => .ok [] μ
def consS (e : Dn) (es : Ds) : Ds := fun env μ => (e env μ).bind fun d μ => (es env μ).bind fun ds μ => .ok (d :: ds) μ
def starS (e : Dn) (es : Ds) : Ds := fun env μ => (e env μ).bind fun d μ => (ofOpt μ (seqOf μ d)).bind fun xs μ => (es env μ).bind fun ds μ => .ok (xs ++ ds) μ
def noneO : Do := fun _ μ => .ok none μ
def someO (e : Dn) : Do := fun env μ => (e env μ).bind fun d μ => ofOpt μ (bndD d)
def seqV (e : Dn) : Di := fun env μ => (e env μ).bind seqI
def rng1V (a : Dn) : Di := fun env μ => (a env μ).bind fun x μ => ofOpt μ (rngD [x])
def rng2V (a b : Dn) : Di := fun env μ => (a env μ).bind fun x μ => (b env μ).bind fun y μ => ofOpt μ (rngD [x, y])
def zipV (a b : Dn) : Di := fun env μ => (a env μ).bind fun x μ => (b env μ).bind fun y μ => zipI x y μ
def enuV (a : Dn) : Di := fun env μ => (a env μ).bind enuI
/-- (the error, what is told): the body's errors must be some of es -/
def hrdV (es : List Str) (a : Dn) : Dn := fun env μ => match a env μ with
  | .ok d μ => .ok (.tup [.non, d]) μ
  | .exc k d μ => if k ∈ es then .ok (.tup [.err k d, .non]) μ else .no
  | .no => .no
def isED (es : List Str) (x : Str) (all : Bool) : D → Option D
  | .err k _ => if k ∈ es then some (.bl (all || decide (k = x))) else none
  | _ => none
def isEV (es : List Str) (a : Dn) (x : Str) (all : Bool) : Dn := fun env μ => (a env μ).bind fun d μ => ofOpt μ (isED es x all d)
def fldD (es : List Str) : D → Option D
  | .err k d => if k ∈ es then some d else none
  | _ => none
def fldV (es : List Str) (a : Dn) : Dn := fun env μ => (a env μ).bind fun d μ => ofOpt μ (fldD es d)
def isbD (ng k : Bool) : D → Option D
  | .bl b => some (.bl (if ng then !decide (b = k) else decide (b = k)))
  | _ => none
def isbV (ng k : Bool) (a : Dn) : Dn := fun env μ => (a env μ).bind fun d μ => ofOpt μ (isbD ng k d)
def revD (μ : Sto) : D → Option (D × Sto)
  | .rol ds => some (newR μ ds.reverse)
  | .obj n => match μ.get n with
    | some (.lst ds) => some (newR μ ds.reverse)
    | _ => none
  | _ => none
def revV (a : Dn) : Dn := fun env μ => (a env μ).bind fun d μ => lift (revD μ d)
mutual
def den (c : Cl) : E → Dn × Dt
  | .var i => mk (varD i)
  | .cst d => mk fun _ μ => .ok d μ
  | .glo _ d => mk fun _ μ => .ok d μ
  | .tup es => mk (tupV (dens c es))
  | .lst es => mk (lstV (dens c es))
  | .tupS fs => mk (tupV (denf c fs))
  | .lstS fs => mk (lstV (denf c fs))
  | .bin op a b => mk (binV op (den c a).1 (den c b).1)
  | .neg a => mk (negV (den c a).1)
  | .not a => (notV (den c a).1, notT (den c a).2)
  | .cmp op a b => (cmpV op (den c a).1 (den c b).1, cmpT op (den c a).1 (den c b).1)
  | .isN ng a => mk (isnV ng (den c a).1)
  | .chn o1 o2 a b d => mk (chnV o1 o2 (den c a).1 (den c b).1 (den c d).1)
  | .and a b => (andV (den c a).1 (den c b).1, andT (den c a).2 (den c b).2)
  | .or a b => (orV (den c a).1 (den c b).1, orT (den c a).2 (den c b).2)
  | .ife t a b => (ifeV (den c t).2 (den c a).1 (den c b).1, ifeT (den c t).2 (den c a).2 (den c b).2)
  | .idx a i => mk (idxV (den c a).1 (den c i).1)
  | .slc a lo hi => mk (slcV (den c a).1 (deno c lo) (deno c hi))
  | .cal f es => mk (calV c f (dens c es))
  | .blt b es => mk (bltV b (dens c es))
  | .isi a t => mk (isiV (den c a).1 t)
  | .lrg es => mk (lrgV (dens c es))
  | .rpr a => mk (rprV (den c a).1)
  | .frz a => mk (frzV (den c a).1)
  | .mls es => mk (mlsV (dens c es))
  | .isB ng k a => mk (isbV ng k (den c a).1)
  | .rev a => mk (revV (den c a).1)
  | .hrd es a => mk (hrdV es (den c a).1)
  | .isE es a x all => mk (isEV es (den c a).1 x all)
  | .fld es a => mk (fldV es (den c a).1)
  | .lcm t s cd e own => mk (lcmV c.wf t (deni c s) (dent c cd) (den c e).1 (own.map (·.2)))
  | .mlc t s cd e own => mk (mlcV c.wf t (deni c s) (dent c cd) (den c e).1 (own.map (·.2)))
def dens (c : Cl) : Es → Ds
  | .nil => nilS
  | .cons e es => consS (den c e).1 (dens c es)
def denf (c : Cl) : Fs → Ds
  | .nil => nilS
  | .cons e fs => consS (den c e).1 (denf c fs)
  | .star e fs => starS (den c e).1 (denf c fs)
def deno (c : Cl) : Eo → Do
  | .none => noneO
  | .some e => someO (den c e).1
def dent (c : Cl) : Eo → Dt
  | .none => yesT
  | .some e => (den c e).2
def deni (c : Cl) : Src → Di
  | .seq e => seqV (den c e).1
  | .rng1 a => rng1V (den c a).1
  | .rng2 a b => rng2V (den c a).1 (den c b).1
  | .zip a b => zipV (den c a).1 (den c b).1
  | .enu a => enuV (den c a).1
end

/-! ### statements -/
inductive S where
  | set (i : Nat) (e : E) | tgt (t : Tg) (e : E) | par (i j : Nat) (a b : E) | setLc (i : Nat) (e : E)
  | dro (e : E) | ret (e : E) | retN | pas | brk | ctn
  | ife (t : E) (a b : List S) | wil (t : E) (b : List S) | foR (t : Tg) (s : Src) (b : List S)
  | sub (a i e : E) | nev
  | par3 (i j l : Nat) (a b d : E) | app (o e : E) | exd (o e : E) | rai (x : Str) (e : E)
inductive Fl where
  | nx (env : En) | rt (d : D) | bk (env : En) | ct (env : En) | ex (c : Str) (d : D) (env : En)
/-- an expression within a statement -/
def Out.stm {α : Type} (o : Out α) (env : En) (k : α → Sto → Out Fl) : Out Fl := match o with
  | .ok a μ => k a μ
  | .exc c d μ => .ok (.ex c d env) μ
  | .no => .no
abbrev Dd := En → Sto → Out Fl
def setD (μ : Sto) (o i v : D) : Option Sto := match o, i with
  | .obj n, .int k => match μ.get n with
    | some (.lst ds) => (ixN ds.length k).map fun j => μ.put n (.lst (ds.set j v))
    | _ => none
  | _, _ => none
def setS (i : Nat) (e : Dn) : Dd := fun env μ => (e env μ).stm env fun d μ => .ok (.nx (env.set i (some d))) μ
/-- a list as a target takes it -/
def asTup (μ : Sto) (d : D) : D := match seqOf μ d with
  | some ds => .tup ds
  | none => d
def tgtS (t : Tg) (e : Dn) : Dd := fun env μ => (e env μ).stm env fun d μ => (ofOpt μ (t.set (asTup μ d) env)).stm env fun env' μ => .ok (.nx env') μ
def parS (i j : Nat) (a b : Dn) : Dd := fun env μ => (a env μ).stm env fun x μ => (b env μ).stm env fun y μ => .ok (.nx ((env.set i (some x)).set j (some y))) μ
def par3S (i j l : Nat) (a b d : Dn) : Dd := fun env μ => (a env μ).stm env fun x μ => (b env μ).stm env fun y μ => (d env μ).stm env fun z μ => .ok (.nx (((env.set i (some x)).set j (some y)).set l (some z))) μ
def appD (μ : Sto) (o v : D) : Option Sto := match o with
  | .obj n => match μ.get n with
    | some (.lst ds) => if ds.length < LIM then some (μ.put n (.lst (ds ++ [v]))) else none
    | _ => none
  | _ => none
def exdD (μ : Sto) (o v : D) : Option Sto := match o with
  | .obj n => match μ.get n with
    | some (.lst ds) => match v with
      | .rol es => if ds.length + es.length ≤ LIM then some (μ.put n (.lst (ds ++ es))) else none
      | .obj m => match μ.get m with
        | some (.lst es) => if ds.length + es.length ≤ LIM then some (μ.put n (.lst (ds ++ es))) else none
        | _ => none
      | _ => none
    | _ => none
  | _ => none
def objL (μ : Sto) : D → Bool
  | .obj n => match μ.get n with
    | some (.lst _) => true
    | _ => false
  | _ => false
def appS (g : Sto → D → D → Option Sto) (o e : Dn) : Dd := fun env μ => (o env μ).stm env fun x μ => if objL μ x then (e env μ).stm env fun v μ => match g μ x v with
    | some μ' => .ok (.nx env) μ'
    | none => .no
  else .no
def raiS (x : Str) (e : Dn) : Dd := fun env μ => (e env μ).stm env fun d μ => .ok (.ex x d env) μ
def droS (e : Dn) : Dd := fun env μ => (e env μ).stm env fun _ μ => .ok (.nx env) μ
def retS (e : Dn) : Dd := fun env μ => (e env μ).stm env fun d μ => .ok (.rt d) μ
def ifeS (t : Dt) (a b : Dd) : Dd := fun env μ => (t env μ).stm env fun k μ => if k then a env μ else b env μ
def subS (a i e : Dn) : Dd := fun env μ => (e env μ).stm env fun v μ => (a env μ).stm env fun o μ => (i env μ).stm env fun k μ => match setD μ o k v with
  | some μ' => .ok (.nx env) μ'
  | none => .no
def seqS (a b : Dd) : Dd := fun env μ => (a env μ).bind fun f μ => match f with
  | .nx env => b env μ
  | f => .ok f μ
def whlS (t : Dt) (b : Dd) : Nat → Dd
  | 0, _, _ => .no
  | n + 1, env, μ => (t env μ).stm env fun k μ => if k then (b env μ).bind fun f μ => match f with
      | .nx env => whlS t b n env μ
      | .ct env => whlS t b n env μ
      | .bk env => .ok (.nx env) μ
      | .rt d => .ok (.rt d) μ
      | .ex c d env => .ok (.ex c d env) μ
    else .ok (.nx env) μ
def forS (t : Tg) (b : Dd) : Nat → Wk → Dd
  | 0, _, _, _ => .no
  | n + 1, J, env, μ => match J.next μ with
    | none => .no
    | some none => .ok (.nx env) μ
    | some (some (d, J')) => match t.set d env with
      | none => .no
      | some env => (b env μ).bind fun f μ => match f with
        | .nx env => forS t b n J' env μ
        | .ct env => forS t b n J' env μ
        | .bk env => .ok (.nx env) μ
        | .rt d => .ok (.rt d) μ
        | .ex c d env => .ok (.ex c d env) μ
def foRS (wf : Nat) (t : Tg) (s : Di) (b : Dd) : Dd := fun env μ => (s env μ).stm env fun J μ => forS t b (J.fuel wf) J env μ
mutual
def exS (c : Cl) : S → Dd
  | .set i e => setS i (den c e).1
  | .setLc i e => setS i (den c e).1
  | .tgt t e => tgtS t (den c e).1
  | .par i j a b => parS i j (den c a).1 (den c b).1
  | .dro e => droS (den c e).1
  | .ret e => retS (den c e).1
  | .retN => fun _ μ => .ok (.rt .non) μ
  | .pas => fun env μ => .ok (.nx env) μ
  | .brk => fun env μ => .ok (.bk env) μ
  | .ctn => fun env μ => .ok (.ct env) μ
  | .ife t a b => ifeS (den c t).2 (exSs c a) (exSs c b)
  | .wil t b => whlS (den c t).2 (exSs c b) c.wf
  | .foR t s b => foRS c.wf t (deni c s) (exSs c b)
  | .sub a i e => subS (den c a).1 (den c i).1 (den c e).1
  | .nev => fun _ _ => .no
  | .par3 i j l a b d => par3S i j l (den c a).1 (den c b).1 (den c d).1
  | .app o e => appS appD (den c o).1 (den c e).1
  | .exd o e => appS exdD (den c o).1 (den c e).1
  | .rai x e => raiS x (den c e).1
def exSs (c : Cl) : List S → Dd
  | [] => fun env μ => .ok (.nx env) μ
  | s :: r => seqS (exS c s) (exSs c r)
end

/-! ### defs, calls by levels -/
structure Df where
  name : Str
  nsl : Nat
  npar : Nat
  body : List S
def findDf : List Df → Str → Option Df
  | [], _ => none
  | d :: r, x => if d.name = x then some d else findDf r x
/-- the value that a body's run tells -/
def endD : Out Fl → Out D
  | .ok (.rt d) μ => .ok d μ
  | .ok (.nx _) μ => .ok .non μ
  | .ok (.ex c d _) μ => .exc c d μ
  | .ok _ _ => .no
  | .exc _ _ _ => .no
  | .no => .no
mutual
def sameD : D → D → Bool
  | .non, .non => true
  | .bl a, .bl b => a == b
  | .int a, .int b => a == b
  | .str a, .str b => decide (a = b)
  | .tup a, .tup b => sameDs a b
  | .rol a, .rol b => sameDs a b
  | .obj a, .obj b => a == b
  | .rep a, .rep b => samePy a b
  | .err k a, .err l b => decide (k = l) && sameD a b
  | _, _ => false
def sameDs : List D → List D → Bool
  | [], [] => true
  | x :: xs, y :: ys => sameD x y && sameDs xs ys
  | _, _ => false
end
mutual
theorem sameD_to : ∀ p q : D, sameD p q = true → p = q
  | .non, q, h => by cases q <;> first | rfl | (unfold sameD at h; cases h)
  | .bl a, q, h => by cases q <;> first | (unfold sameD at h; rw [beq_iff_eq.mp h]) | (unfold sameD at h; cases h)
  | .int a, q, h => by cases q <;> first | (unfold sameD at h; rw [beq_iff_eq.mp h]) | (unfold sameD at h; cases h)
  | .str a, q, h => by cases q <;> first | (unfold sameD at h; rw [of_decide_eq_true h]) | (unfold sameD at h; cases h)
  | .tup a, q, h => by cases q <;> first | (unfold sameD at h; rw [sameDs_to _ _ h]) | (unfold sameD at h; cases h)
  | .rol a, q, h => by cases q <;> first | (unfold sameD at h; rw [sameDs_to _ _ h]) | (unfold sameD at h; cases h)
  | .obj a, q, h => by cases q <;> first | (unfold sameD at h; rw [beq_iff_eq.mp h]) | (unfold sameD at h; cases h)
  | .rep a, q, h => by cases q <;> first | (unfold sameD at h; rw [samePy_to _ _ h]) | (unfold sameD at h; cases h)
  | .err k a, q, h => by
    cases q <;> first | (unfold sameD at h; cases h; done) | skip
    unfold sameD at h
    rw [Bool.and_eq_true] at h
    rw [of_decide_eq_true h.1, sameD_to a _ h.2]
theorem sameDs_to : ∀ p q : List D, sameDs p q = true → p = q
  | [], q, h => by cases q <;> first | rfl | (unfold sameDs at h; cases h)
  | x :: xs, q, h => by
    cases q with
    | nil => unfold sameDs at h; cases h
    | cons y ys =>
      unfold sameDs at h
      rw [Bool.and_eq_true] at h
      rw [sameD_to x y h.1, sameDs_to xs ys h.2]
end
mutual
theorem sameD_self : ∀ p : D, sameD p p = true
  | .non => rfl
  | .bl a => by unfold sameD; exact beq_self_eq_true a
  | .int a => by unfold sameD; exact beq_self_eq_true a
  | .str a => by unfold sameD; exact decide_eq_true rfl
  | .tup a => by unfold sameD; exact sameDs_self a
  | .rol a => by unfold sameD; exact sameDs_self a
  | .obj a => by unfold sameD; exact beq_self_eq_true a
  | .rep a => by unfold sameD; exact samePy_self a
  | .err k a => by unfold sameD; rw [sameD_self a, decide_eq_true rfl]; rfl
theorem sameDs_self : ∀ p : List D, sameDs p p = true
  | [] => rfl
  | x :: xs => by unfold sameDs; rw [sameD_self x, sameDs_self xs]; rfl
end
theorem sameD_eq : (∀ p q : D, sameD p q = true → p = q) ∧ ∀ ps qs : List D, sameDs ps qs = true → ps = qs := ⟨sameD_to, sameDs_to⟩
def sameKv {κ : Type} [DecidableEq κ] : List (κ × D) → List (κ × D) → Bool
  | [], [] => true
  | (k, v) :: xs, (l, w) :: ys => decide (k = l) && sameD v w && sameKv xs ys
  | _, _ => false
theorem sameKv_to {κ : Type} [DecidableEq κ] : ∀ p q : List (κ × D), sameKv p q = true → p = q
  | [], q, h => by cases q <;> first | rfl | (unfold sameKv at h; cases h)
  | (k, v) :: xs, q, h => by
    cases q with
    | nil => unfold sameKv at h; cases h
    | cons y ys =>
      obtain ⟨l, w⟩ := y
      unfold sameKv at h
      rw [Bool.and_eq_true, Bool.and_eq_true] at h
      rw [of_decide_eq_true h.1.1, sameD_to v w h.1.2, sameKv_to xs ys h.2]
theorem sameKv_self {κ : Type} [DecidableEq κ] : ∀ p : List (κ × D), sameKv p p = true
  | [] => rfl
  | (k, v) :: xs => by unfold sameKv; rw [sameD_self v, sameKv_self xs, decide_eq_true (rfl : k = k)]; rfl
def sameO : O → O → Bool
  | .lst a, .lst b => sameDs a b
  | .dK a, .dK b => sameKv a b
  | .dT a, .dT b => sameKv a b
  | .ins c a, .ins d b => decide (c = d) && sameKv a b
  | _, _ => false
theorem sameO_eq {a b : O} (h : sameO a b = true) : a = b := by
  cases a <;> cases b <;> first | cases h | skip
  · rename_i x y; rw [sameDs_to _ _ h]
  · rename_i x y; rw [sameKv_to _ _ h]
  · rename_i x y; rw [sameKv_to _ _ h]
  · unfold sameO at h
    rw [Bool.and_eq_true] at h
    rw [of_decide_eq_true h.1, sameKv_to _ _ h.2]
theorem sameO_self (a : O) : sameO a a = true := by
  cases a with
  | lst x => exact sameDs_self x
  | dK x => exact sameKv_self x
  | dT x => exact sameKv_self x
  | ins c x => show (decide (c = c) && sameKv x x) = true; rw [sameKv_self x, decide_eq_true (rfl : c = c)]; rfl
/-- a cell as it was, or one that mentions only the first cells -/
def cellOk (k : Nat) (a b : Option O) : Bool := match b with
  | none => true
  | some o => closedO k o || (match a with
    | some o' => sameO o' o
    | none => false)
def oldOk (k : Nat) : List (Option O) → List (Option O) → Bool
  | [], _ => true
  | _ :: _, [] => false
  | a :: r, b :: s => cellOk k a b && oldOk k r s
def cutOk (μ μ' : Sto) (d : D) : Bool := closedD μ.sz d && oldOk μ.sz μ.row μ'.row
/-- behind a call: new cells that nothing mentions are gone -/
def cutS (μ : Sto) : Out D → Out D
  | .ok d μ' => .ok d (if cutOk μ μ' d then μ'.cut μ.sz else μ')
  | .exc c d μ' => .exc c d (if cutOk μ μ' d then μ'.cut μ.sz else μ')
  | .no => .no
def runDf (c : Cl) (d : Df) (ds : List D) (μ : Sto) : Out D := if ds.length = d.npar then cutS μ (endD (exSs c d.body (ds.map some ++ List.replicate (d.nsl - d.npar) none) μ)) else .no
def callN (P : List Df) (wf : Nat) : Nat → Str → List D → Sto → Out D
  | 0, _, _, _ => .no
  | n + 1, f, ds, μ => match findDf P f with
    | some d => runDf ⟨wf, callN P wf n⟩ d ds μ
    | none => .no
end Rf


set_option Elab.async false
set_option linter.all false
set_option maxRecDepth 100000
set_option maxHeartbeats 2000000
/-! Rf, part C: the operations on data are the machine's. -/
namespace Rf
open PySem PySem.Spec PyProof.Rows L2

theorem lim_le {n : Nat} (h : n ≤ LIM) : n ≤ sizeLine := by
  have e : sizeLine = 16777216 := sizeLine_eq
  unfold LIM at h
  omega
theorem lim_lt {n : Nat} (h : n < LIM) : n < sizeLine := by
  have e : sizeLine = 16777216 := sizeLine_eq
  unfold LIM at h
  omega
theorem big_log {i : Int} (h : mid i = true) : i.natAbs.log2 < 8000 := by
  have h1 : i.natAbs < 2 ^ 8000 := by rw [← MID_eq]; exact of_decide_eq_true h
  exact PySem.Flt.log2_lt_of (by decide) h1
theorem big_mul {i j : Int} (h : small i = true) (g : small j = true) : CMulX i j := mulx_ok (a := 1000000) (b := 1000000) (by rw [← BIG_eq]; exact of_decide_eq_true h) (by rw [← BIG_eq]; exact of_decide_eq_true g) (by decide)

section
variable {K : PySem.W.Frag} {ρ ρ' : List Addr} {H H' : Hp} {env : En} {σ : L2.St} {W : XW} {μ : Sto}
theorem rep_int {i : Int} {v : V} (h : Rep K ρ H (.int i) v) : v = .int i := by unfold Rep at h; exact h
theorem rep_bl {b : Bool} {v : V} (h : Rep K ρ H (.bl b) v) : v = .bl b := by unfold Rep at h; exact h
theorem rep_str {x : Str} {v : V} (h : Rep K ρ H (.str x) v) : v = .str x := by unfold Rep at h; exact h
theorem rep_non {v : V} (h : Rep K ρ H .non v) : v = .non := by unfold Rep at h; exact h
theorem rep_tup {ds : List D} {v : V} (h : Rep K ρ H (.tup ds) v) : ∃ a vs, v = .ref a ∧ SqT K H a vs ∧ Reps K ρ H ds vs := by unfold Rep at h; exact h
theorem rep_rep {p : PyData} {v : V} (h : Rep K ρ H (.rep p) v) : v = .str p.shown := by unfold Rep at h; exact h
theorem mk_rep {p : PyData} : Rep K ρ H (.rep p) (.str p.shown) := by unfold Rep; rfl
theorem rep_obj {n : Nat} {v : V} (h : Rep K ρ H (.obj n) v) : ∃ a, v = .ref a ∧ ρ[n]? = some a := by unfold Rep at h; exact h
theorem mk_int {i : Int} : Rep K ρ H (.int i) (.int i) := by unfold Rep; rfl
theorem mk_bl {b : Bool} : Rep K ρ H (.bl b) (.bl b) := by unfold Rep; rfl
theorem mk_str {x : Str} : Rep K ρ H (.str x) (.str x) := by unfold Rep; rfl
theorem mk_non : Rep K ρ H .non .non := by unfold Rep; rfl
theorem mk_tup {ds : List D} {a : Addr} {vs : List V} (h : SqT K H a vs) (r : Reps K ρ H ds vs) : Rep K ρ H (.tup ds) (.ref a) := by unfold Rep; exact ⟨a, vs, rfl, h, r⟩
theorem Sim.at (S : Sim K ρ H μ) {n : Nat} {a : Addr} {o : O} (ha : ρ[n]? = some a) (ho : μ.get n = some o) : ORep K ρ H a o := by
  obtain ⟨a', e, r⟩ := S.obj n o ho
  rw [ha] at e
  cases e
  exact r
theorem seqOf_obj_eq (n : Nat) : seqOf μ (.obj n) = (match μ.get n with
    | some (.lst ds) => some ds
    | _ => none) := rfl
theorem rep_rol {ds : List D} {v : V} (h : Rep K ρ H (.rol ds) v) : ∃ a vs, v = .ref a ∧ RoL K H a vs ∧ Reps K ρ H ds vs := by unfold Rep at h; exact h
/-- a list, a tuple by its items -/
theorem seqOf_sq (S : Sim K ρ H μ) {d : D} {v : V} {ds : List D} (r : Rep K ρ H d v) (e : seqOf μ d = some ds) : ∃ a vs, v = .ref a ∧ Reps K ρ H ds vs ∧ ((SqT K H a vs ∧ d = .tup ds) ∨ (SqL K H a vs ∧ ∀ es, d ≠ .tup es)) := by
  cases d with
  | tup es =>
    unfold seqOf at e
    cases e
    obtain ⟨a, vs, e1, h1, h2⟩ := rep_tup r
    exact ⟨a, vs, e1, h2, .inl ⟨h1, rfl⟩⟩
  | rol es =>
    unfold seqOf at e
    cases e
    obtain ⟨a, vs, e1, h1, h2⟩ := rep_rol r
    exact ⟨a, vs, e1, h2, .inr ⟨h1.sq, fun _ z => by cases z⟩⟩
  | obj n =>
    obtain ⟨a, rfl, ha⟩ := rep_obj r
    rw [seqOf_obj_eq] at e
    cases eo : μ.get n with
    | none => rw [eo] at e; cases e
    | some o =>
      rw [eo] at e
      have ro := S.at ha eo
      cases o with
      | lst es => cases e; obtain ⟨vs, h1, h2⟩ := ro; exact ⟨a, vs, rfl, h2, .inr ⟨.of h1, fun _ z => by cases z⟩⟩
      | _ => cases e
  | _ => cases e
/-! ### new things -/
theorem fin_newT (S : Sim K ρ H μ) {p : Addr} {ds : List D} {vs : List V} {Q : VK} (hp : H p = none) (r : Reps K ρ H ds vs) (h : Fin (Rep K) W K ρ H (.ok (.tup ds) μ) Q) : Q (.ref p) (upd H p (.tup vs)) :=
  h ρ _ _ (Ext.new hp) (S.new hp) (Rep.newTup hp r)
theorem fin_newL (S : Sim K ρ H μ) {p : Addr} {ds : List D} {vs : List V} {Q : VK} (hp : H p = none) (r : Reps K ρ H ds vs) (h : Fin (Rep K) W K ρ H (lift (some (newL μ ds))) Q) : Q (.ref p) (upd H p (.lst vs)) := by
  have h2 := S.alloc (b := .lst ds) (o := .lst vs) hp ⟨vs, upd_same, r.ext (Ext.alloc hp)⟩
  exact h (ρ ++ [p]) _ _ (Ext.alloc hp) h2.1 h2.2
/-- a new list may be frozen at once -/
def LkQ (Q : VK) : VK := fun v H => Q v H ∨ ∃ p vs, v = .ref p ∧ H p = some (.lst vs) ∧ ∀ od, Q v (upd H p (.frz od (.lst vs)))
theorem fin_newR (S : Sim K ρ H μ) {p : Addr} {ds : List D} {vs : List V} {Q : VK} (hp : H p = none) (r : Reps K ρ H ds vs) (h : Fin (Rep K) W K ρ H (lift (some (newR μ ds))) Q) : LkQ Q (.ref p) (upd H p (.lst vs)) :=
  .inr ⟨p, vs, rfl, upd_same, fun od => by rw [upd_upd]; exact h ρ _ _ (Ext.new hp) (S.new hp) (Rep.newRol hp r)⟩
theorem seqOf_obj {n : Nat} {ds : List D} (h : seqOf μ (.obj n) = some ds) : μ.get n = some (.lst ds) := by
  rw [seqOf_obj_eq] at h
  cases e : μ.get n with
  | none => rw [e] at h; cases h
  | some o =>
    rw [e] at h
    cases o with
    | lst xs => cases h; rfl
    | _ => cases h
/-! ### truth -/
theorem isEmpty_reps {ds : List D} {vs : List V} (r : Reps K ρ H ds vs) : (!vs.isEmpty) = !ds.isEmpty := by
  have := r.length
  cases ds <;> cases vs <;> simp_all
theorem kvs_empty {κ : Type} {R : D → V → Prop} {ps : List (κ × D)} {us : List (κ × V)} (r : Kvs R ps us) : (!us.isEmpty) = !ps.isEmpty := by
  cases ps with
  | nil => have e : us = [] := r; subst e; rfl
  | cons p ps => obtain ⟨u, r', e, _⟩ := r; subst e; rfl
theorem truD_tru (S : Sim K ρ H μ) {d : D} {v : V} {b : Bool} (r : Rep K ρ H d v) (e : truD μ d = some b) : TruV K v H b := by
  cases d with
  | non => rw [rep_non r]; cases e; rfl
  | bl k => rw [rep_bl r]; cases e; rfl
  | int i => rw [rep_int r]; cases e; rfl
  | str x =>
    rw [rep_str r]
    have e' : (if x.length ≤ LIM then some ((x.length : Int) != 0) else none) = some b := e
    by_cases hl : x.length ≤ LIM
    · rw [if_pos hl] at e'; cases e'; exact ⟨lim_le hl, rfl⟩
    · rw [if_neg hl] at e'; cases e'
  | tup ds =>
    obtain ⟨a, vs, rfl, h1, h2⟩ := rep_tup r
    cases e
    exact .inr (.inl ⟨vs, h1, (isEmpty_reps h2).symm⟩)
  | rol ds =>
    obtain ⟨a, vs, rfl, h1, h2⟩ := rep_rol r
    cases e
    exact .inl ⟨vs, h1.sq, (isEmpty_reps h2).symm⟩
  | obj n =>
    obtain ⟨a, rfl, ha⟩ := rep_obj r
    have e' : (match μ.get n with
      | some (.lst ds) => some (!ds.isEmpty)
      | some (.dK kvs) => some (!kvs.isEmpty)
      | _ => none) = some b := e
    clear e
    cases eo : μ.get n with
    | none => rw [eo] at e'; cases e'
    | some o =>
      rw [eo] at e'
      have e := e'
      have ro := S.at ha eo
      cases o with
      | lst es => cases e; obtain ⟨vs, h1, h2⟩ := ro; exact .inl ⟨vs, .of h1, (isEmpty_reps h2).symm⟩
      | dK kvs => cases e; obtain ⟨us, h1, h2⟩ := ro; exact .inr (.inr ⟨us, h1, (kvs_empty h2).symm⟩)
      | _ => cases e
  | rep p => cases e
  | err k d => cases e
/-! ### readings of operations -/
def rBin (K : PySem.W.Frag) (g : D → D → Sto → Out D) : R2 := fun x y H Q => ∃ (W : XW) (ρ : List Addr) (μ : Sto) (d e : D), Sim K ρ H μ ∧ Rep K ρ H d x ∧ Rep K ρ H e y ∧ Fin (Rep K) W K ρ H (g d e μ) Q
def rUn1 (K : PySem.W.Frag) (g : D → Sto → Out D) : V → Hp → VK → Prop := fun x H Q => ∃ (W : XW) (ρ : List Addr) (μ : Sto) (d : D), Sim K ρ H μ ∧ Rep K ρ H d x ∧ Fin (Rep K) W K ρ H (g d μ) Q
def rArg (K : PySem.W.Frag) (g : List D → Sto → Out D) : List V → Hp → VK → Prop := fun xs H Q => ∃ (W : XW) (ρ : List Addr) (μ : Sto) (ds : List D), Sim K ρ H μ ∧ Reps K ρ H ds xs ∧ Fin (Rep K) W K ρ H (g ds μ) Q
end
section
variable {X : Cx}
theorem ep_lk {pins : List (Addr × Obj)} {σ : L2.St} {Q : VK} {u : Value} {s : Shared} (h : EP X pins σ (LkQ Q) u s) : EP X pins σ Q u s := by
  obtain ⟨v, H, I, r, q⟩ := h
  rcases q with q | ⟨p, vs, rfl, e, q⟩
  · exact ⟨v, H, I, r, q⟩
  · obtain ⟨od, I'⟩ := I.lock e trivial
    exact ⟨_, _, I', r, q od⟩
theorem op_lk {f : Value → Value → Sem Value} {r : R2} (h : OpR X f r) : OpR X f (fun x y H Q => r x y H (LkQ Q)) :=
  fun pins s σ H x y v u Q I rx ry q => thn (h pins s σ H x y v u (LkQ Q) I rx ry q) fun _ _ z => ep_lk z
theorem cr_lk {f : Value} {r : List V → Hp → VK → Prop} (h : CallR X f r) : CallR X f (fun xs H Q => r xs H (LkQ Q)) :=
  fun pins s σ H xs us Q I rx q => thn (h pins s σ H xs us (LkQ Q) I rx q) fun _ _ z => ep_lk z
theorem sl_lk {r : V → Option Int → Option Int → Hp → VK → Prop} (h : L2.SlR X r) : L2.SlR X (fun x lo hi H Q => r x lo hi H (LkQ Q)) :=
  fun pins s σ H x v vl vu lo hi sl Q I rx hs pl pu q => by
    obtain ⟨T, id, e1, e2, e3⟩ := h pins s σ H x v vl vu lo hi sl (LkQ Q) I rx hs pl pu q
    exact ⟨T, id, e1, e2, thn e3 fun _ _ z => ep_lk z⟩
theorem pe_lk {e : Expr} {t : TE} (h : PE X e t) : PE X e (fun σ H Q => t σ H (LkQ Q)) :=
  ⟨fun pins s σ H Q I q => thn (h.run pins s σ H (LkQ Q) I q) fun _ _ z => ep_lk z⟩
/-- lists of any kind put together -/
def rCatS (K : PySem.W.Frag) : R2 := fun x y H Q => ∃ l b xs zs, x = .ref l ∧ y = .ref b ∧ SqL K H l xs ∧ SqL K H b zs ∧ xs.length + zs.length ≤ sizeLine ∧ ∀ p, H p = none → Q (.ref p) (upd H p (.lst (xs ++ zs)))
theorem op_catS : OpR X (binaryOp .Add) (rCatS X.K) := by
  intro pins s σ H x y v u Q I rx ry h
  obtain ⟨l, b, xs, zs, rfl, rfl, hH, hB, hz, q⟩ := h
  cases rx
  cases ry
  obtain ⟨its, r, pl, _⟩ := I.list hH
  obtain ⟨its2, r2, pl2, _⟩ := I.list hB
  obtain ⟨⟨cls, dd, data, sl⟩, n, ho, hc, hd, hs⟩ := pl
  obtain ⟨⟨cls2, dd2, data2, sl2⟩, n2, ho2, hc2, hd2, hs2⟩ := pl2
  simp only at hc hd hs hc2 hd2 hs2
  subst hc hd hs hc2 hd2 hs2
  have e : its.toArray ++ its2.toArray = (its ++ its2).toArray := by simp
  refine concat_meets ⟨_, ho, rfl⟩ ⟨_, ho2, rfl⟩ noFill_list_add seq_list_add PySem.F.slot_list_add PySem.F.entry_list_add (PySem.F.args_list_add_2 _ _) (list_addW l b its.toArray its2.toArray n n2 none none sl sl2 (by rw [List.size_toArray, List.size_toArray, ← r.length, ← r2.length]; exact hz)) ⟨ho, ho2, ?_⟩
  rw [e]
  exact ⟨.ref _, _, I.lnew (t' := s.toks) (r.append r2) (by rw [List.length_append]; omega), rfl, q _ I.fresh⟩
theorem catD_some {μ : Sto} {xs ys : List D} {p : D × Sto} (h : catD μ xs ys = some p) : xs.length + ys.length ≤ LIM ∧ p = newR μ (xs ++ ys) := by
  unfold catD at h
  split at h
  · cases h; exact ⟨by assumption, rfl⟩
  · cases h
theorem op_addD : OpR X (binaryOp .Add) (rBin X.K fun x y μ => lift (binD .Add x y μ)) := by
  rintro pins s σ H x y v u Q I rx ry ⟨W, ρ, μ, d, e, S, r1, r2, h⟩
  cases d with
  | int i =>
    cases e with
    | int j => exact op_add pins s σ H x y v u Q I rx ry ⟨i, j, rep_int r1, rep_int r2, Fin.now h S mk_int⟩
    | bl b => exact op_add_ib pins s σ H x y v u Q I rx ry ⟨i, b, rep_int r1, rep_bl r2, Fin.now h S mk_int⟩
    | _ => exact (show False from h).elim
  | str a =>
    cases e with
    | str b =>
      simp only [binD] at h
      by_cases hl : a.length + b.length ≤ LIM
      · rw [if_pos hl] at h
        exact op_add_str pins s σ H x y v u Q I rx ry ⟨a, b, rep_str r1, rep_str r2, lim_le hl, Fin.now h S mk_str⟩
      · rw [if_neg hl] at h; exact (show False from h).elim
    | _ => exact (show False from h).elim
  | tup as =>
    cases e with
    | tup bs =>
      simp only [binD] at h
      by_cases hl : as.length + bs.length ≤ LIM
      · rw [if_pos hl] at h
        obtain ⟨a, vs, e1, t1, q1⟩ := rep_tup r1
        obtain ⟨b, us, e2, t2, q2⟩ := rep_tup r2
        refine op_catA pins s σ H x y v u Q I rx ry ⟨a, b, vs, us, e1, e2, t1, t2, lim_le (by rw [q1.length, q2.length]; exact hl), fun e3 => ?_, fun _ e3 => ?_, fun _ _ p hp => ?_⟩
        · subst e3
          have : as = [] := List.eq_nil_of_length_eq_zero (by rw [← q1.length]; rfl)
          subst this
          exact Fin.now h S (mk_tup t2 q2)
        · subst e3
          have : bs = [] := List.eq_nil_of_length_eq_zero (by rw [← q2.length]; rfl)
          subst this
          rw [List.append_nil] at h
          exact Fin.now h S (mk_tup t1 q1)
        · exact fin_newT S hp (q1.append q2) h
      · rw [if_neg hl] at h; exact (show False from h).elim
    | _ => exact (show False from h).elim
  | rol xs =>
    have key : ∀ ys, seqOf μ e = some ys → (∀ es, e ≠ .tup es) → Fin (Rep X.K) W X.K ρ H (lift (catD μ xs ys)) Q → wpAny (model X.prog X.w) X.A (binaryOp .Add v u) (EP X pins σ Q) X.xe s := by
      intro ys hy ht h
      obtain ⟨a, vs, e1, t1, q1⟩ := rep_rol r1
      obtain ⟨b, us, e2, q2, hh⟩ := seqOf_sq S r2 hy
      have t2 : SqL X.K H b us := hh.elim (fun z => absurd z.2 (ht _)) (fun z => z.1)
      cases hc : catD μ xs ys with
      | none => rw [hc] at h; exact (show False from h).elim
      | some p =>
        obtain ⟨hl, rfl⟩ := catD_some hc
        rw [hc] at h
        exact op_lk op_catS pins s σ H x y v u Q I rx ry ⟨a, b, vs, us, e1, e2, t1.sq, t2, lim_le (by rw [q1.length, q2.length]; exact hl), fun p hp => fin_newR S hp (q1.append q2) h⟩
    cases e with
    | rol ys => exact key ys rfl (fun _ z => by cases z) h
    | obj m =>
      have h' : Fin (Rep X.K) W X.K ρ H (lift ((seqOf μ (.obj m)).bind fun ys => catD μ xs ys)) Q := h
      cases hs : seqOf μ (.obj m) with
      | none => rw [hs] at h'; exact (show False from h').elim
      | some ys => rw [hs] at h'; exact key ys hs (fun _ z => by cases z) h'
    | _ => exact (show False from h).elim
  | obj n =>
    have key : ∀ xs ys, seqOf μ (.obj n) = some xs → seqOf μ e = some ys → (∀ es, e ≠ .tup es) → Fin (Rep X.K) W X.K ρ H (lift (catD μ xs ys)) Q → wpAny (model X.prog X.w) X.A (binaryOp .Add v u) (EP X pins σ Q) X.xe s := by
      intro xs ys hx hy ht h
      obtain ⟨a, vs, e1, q1, hh1⟩ := seqOf_sq S r1 hx
      have t1 : SqL X.K H a vs := hh1.elim (fun z => by cases z.2) (fun z => z.1)
      obtain ⟨b, us, e2, q2, hh⟩ := seqOf_sq S r2 hy
      have t2 : SqL X.K H b us := hh.elim (fun z => absurd z.2 (ht _)) (fun z => z.1)
      cases hc : catD μ xs ys with
      | none => rw [hc] at h; exact (show False from h).elim
      | some p =>
        obtain ⟨hl, rfl⟩ := catD_some hc
        rw [hc] at h
        exact op_lk op_catS pins s σ H x y v u Q I rx ry ⟨a, b, vs, us, e1, e2, t1, t2, lim_le (by rw [q1.length, q2.length]; exact hl), fun p hp => fin_newR S hp (q1.append q2) h⟩
    cases e with
    | rol ys =>
      have h' : Fin (Rep X.K) W X.K ρ H (lift ((seqOf μ (.obj n)).bind fun xs => catD μ xs ys)) Q := h
      cases hs : seqOf μ (.obj n) with
      | none => rw [hs] at h'; exact (show False from h').elim
      | some xs => rw [hs] at h'; exact key xs ys hs rfl (fun _ z => by cases z) h'
    | obj m =>
      have h' : Fin (Rep X.K) W X.K ρ H (lift ((seqOf μ (.obj n)).bind fun xs => (seqOf μ (.obj m)).bind fun ys => catD μ xs ys)) Q := h
      cases hs : seqOf μ (.obj n) with
      | none => rw [hs] at h'; exact (show False from h').elim
      | some xs =>
        rw [hs] at h'
        cases hs2 : seqOf μ (.obj m) with
        | none => simp only [Option.bind_some, hs2] at h'; exact (show False from h').elim
        | some ys => simp only [Option.bind_some, hs2] at h'; exact key xs ys hs hs2 (fun _ z => by cases z) h'
    | _ => exact (show False from h).elim
  | _ => cases e <;> exact (show False from h).elim
theorem op_subD : OpR X (binaryOp .Sub) (rBin X.K fun x y μ => lift (binD .Sub x y μ)) := by
  rintro pins s σ H x y v u Q I rx ry ⟨W, ρ, μ, d, e, S, r1, r2, h⟩
  cases d with
  | int i =>
    cases e with
    | int j => exact op_sub pins s σ H x y v u Q I rx ry ⟨i, j, rep_int r1, rep_int r2, Fin.now h S mk_int⟩
    | _ => exact (show False from h).elim
  | _ => cases e <;> exact (show False from h).elim
theorem op_mulD : OpR X (binaryOp .Mult) (rBin X.K fun x y μ => lift (binD .Mult x y μ)) := by
  rintro pins s σ H x y v u Q I rx ry ⟨W, ρ, μ, d, e, S, r1, r2, h⟩
  cases d with
  | int i =>
    cases e with
    | int j =>
      simp only [binD] at h
      by_cases hl : (small i && small j) = true
      · rw [if_pos hl] at h
        rw [Bool.and_eq_true] at hl
        exact op_mulX pins s σ H x y v u Q I rx ry ⟨i, j, rep_int r1, rep_int r2, big_mul hl.1 hl.2, Fin.now h S mk_int⟩
      · rw [if_neg hl] at h; exact (show False from h).elim
    | _ => exact (show False from h).elim
  | _ => cases e <;> exact (show False from h).elim
theorem op_divD : OpR X (binaryOp .FloorDiv) (rBin X.K fun x y μ => lift (binD .FloorDiv x y μ)) := by
  rintro pins s σ H x y v u Q I rx ry ⟨W, ρ, μ, d, e, S, r1, r2, h⟩
  cases d with
  | int i =>
    cases e with
    | int j =>
      simp only [binD] at h
      by_cases hl : (decide (j ≠ 0) && mid j) = true
      · rw [if_pos hl] at h
        rw [Bool.and_eq_true] at hl
        have h2 := big_log hl.2
        have h1 : j ≠ 0 := of_decide_eq_true hl.1
        have e1 := rep_int r1
        have e2 := rep_int r2
        subst e1 e2
        obtain ⟨t, rfl⟩ := rx
        obtain ⟨t', rfl⟩ := ry
        exact floordiv_int h1 ⟨.int (i.fdiv j), H, I.tok _, ⟨_, rfl⟩, Fin.now h S mk_int⟩ (.inl (PyProof.noPylong_of_log2 (by omega)))
      · rw [if_neg hl] at h; exact (show False from h).elim
    | _ => exact (show False from h).elim
  | _ => cases e <;> exact (show False from h).elim
theorem op_modD : OpR X (binaryOp .Mod) (rBin X.K fun x y μ => lift (binD .Mod x y μ)) := by
  rintro pins s σ H x y v u Q I rx ry ⟨W, ρ, μ, d, e, S, r1, r2, h⟩
  cases d with
  | int i =>
    cases e with
    | int j =>
      simp only [binD] at h
      by_cases hl : j ≠ 0
      · rw [if_pos hl] at h
        exact op_modN pins s σ H x y v u Q I rx ry ⟨i, j, rep_int r1, rep_int r2, hl, Fin.now h S mk_int⟩
      · rw [if_neg hl] at h; exact (show False from h).elim
    | _ => exact (show False from h).elim
  | _ => cases e <;> exact (show False from h).elim
theorem op_powD : OpR X (binaryOp .Pow) (rBin X.K fun x y μ => lift (binD .Pow x y μ)) := by
  rintro pins s σ H x y v u Q I rx ry ⟨W, ρ, μ, d, e, S, r1, r2, h⟩
  cases d with
  | int i =>
    cases e with
    | int j =>
      simp only [binD] at h
      by_cases hl : (decide (0 ≤ j) && decide (j ≤ 10000) && mid i) = true
      · rw [if_pos hl] at h
        rw [Bool.and_eq_true, Bool.and_eq_true] at hl
        have h2 := big_log hl.2
        have h0 : 0 ≤ j := of_decide_eq_true hl.1.1
        have h1 : j ≤ 10000 := of_decide_eq_true hl.1.2
        have e1 := rep_int r1
        have e2 := rep_int r2
        subst e1 e2
        obtain ⟨t, rfl⟩ := rx
        obtain ⟨t', rfl⟩ := ry
        have hb : Builtin.Int.intBits i ≤ 8000 := by
          unfold Builtin.Int.intBits
          split <;> omega
        have hm : (Builtin.Int.intBits i : Int) * j ≤ 8000 * 10000 := Int.mul_le_mul (by omega) h1 h0 (by decide)
        exact pow_int h0 (by omega) ⟨.int (i ^ j.toNat), H, I.tok _, ⟨_, rfl⟩, Fin.now h S mk_int⟩
      · rw [if_neg hl] at h; exact (show False from h).elim
    | _ => exact (show False from h).elim
  | _ => cases e <;> exact (show False from h).elim
theorem no_fin {K : PySem.W.Frag} {W : XW} {ρ : List Addr} {H : Hp} {Q : VK} (h : Fin (Rep K) W K ρ H (lift none) Q) : False := h
/-- which operators are served -/
def okOp : Operator → Bool
  | .Add => true | .Sub => true | .Mult => true | .FloorDiv => true | .Mod => true | .Pow => true
  | _ => false
theorem op_binD {op : Operator} (h : okOp op = true) : OpR X (binaryOp op) (rBin X.K fun x y μ => lift (binD op x y μ)) := by
  cases op with
  | Add => exact op_addD
  | Sub => exact op_subD
  | Mult => exact op_mulD
  | FloorDiv => exact op_divD
  | Mod => exact op_modD
  | Pow => exact op_powD
  | _ => cases h
theorem un_negD : UnR X (unaryOp .USub) (rUn1 X.K fun x μ => ofOpt μ (negD x)) := by
  rintro pins s σ H x v Q I rx ⟨W, ρ, μ, d, S, r1, h⟩
  cases d with
  | int i => exact un_neg pins s σ H x v Q I rx ⟨i, rep_int r1, Fin.now h S mk_int⟩
  | _ => exact (show False from h).elim

/-! ### comparisons -/
theorem eqD_deep {K : PySem.W.Frag} {ρ : List Addr} {H : Hp} {μ : Sto} (S : Sim K ρ H μ) {d e : D} {x y : V} {k : Bool} (r1 : Rep K ρ H d x) (r2 : Rep K ρ H e y)
    (h : (match toPy μ FU d, toPy μ FU e with
      | some p, some q => if SeqAt.shaped p && SeqAt.shaped q then some (PyData.eqv p q) else none
      | _, _ => none) = some k) : ∃ p q, Dp K H x p ∧ Dp K H y q ∧ SeqAt.shaped p = true ∧ SeqAt.shaped q = true ∧ PyData.eqv p q = k := by
  cases e1 : toPy μ FU d with
  | none => simp only [e1] at h; cases h
  | some p =>
    cases e2 : toPy μ FU e with
    | none => simp only [e1, e2] at h; cases h
    | some q =>
      simp only [e1, e2] at h
      split at h
      · rename_i hs
        rw [Bool.and_eq_true] at hs
        cases h
        exact ⟨p, q, toPy_dp S _ _ _ _ r1 e1, toPy_dp S _ _ _ _ r2 e2, hs.1, hs.2, rfl⟩
      · cases h
theorem eqD_cases {K : PySem.W.Frag} {ρ : List Addr} {H : Hp} {μ : Sto} (S : Sim K ρ H μ) {d e : D} {x y : V} {k : Bool} (r1 : Rep K ρ H d x) (r2 : Rep K ρ H e y) (h : eqD μ d e = some k) :
    (scal x y = true ∧ decide (x = y) = k) ∨ ∃ p q, Dp K H x p ∧ Dp K H y q ∧ SeqAt.shaped p = true ∧ SeqAt.shaped q = true ∧ PyData.eqv p q = k := by
  unfold eqD at h
  split at h
  · cases h; rw [rep_int r1, rep_int r2]; exact .inl ⟨rfl, by simp⟩
  · cases h; rw [rep_non r1, rep_non r2]; exact .inl ⟨rfl, by simp⟩
  · cases h; rw [rep_bl r1, rep_bl r2]; exact .inl ⟨rfl, by simp⟩
  · cases h; rw [rep_str r1, rep_str r2]; exact .inl ⟨rfl, by simp⟩
  · split at h
    · rename_i hs
      cases h
      rw [rep_rep r1, rep_rep r2, samePy_eq.1 _ _ hs]
      exact .inl ⟨rfl, by simp⟩
    · cases h
  · exact .inr (eqD_deep S r1 r2 h)
def okCmp : CmpOp → Bool
  | .Eq => true | .NotEq => true | .Lt => true | .LtE => true | .Gt => true | .GtE => true | .In => true | .NotIn => true
  | _ => false
theorem in_rep {K : PySem.W.Frag} {ρ : List Addr} {H : Hp} : ∀ {d : D} {x : V} {ds : List D} {vs : List V} {k : Bool}, Rep K ρ H d x → Reps K ρ H ds vs → inD d ds = some k → flatV x = true ∧ vs.all flatV = true ∧ inV x vs = k
  | d, x, [], vs, k, r, rs, e => by
    rw [rs.unnil]
    cases d with
    | int i => rw [rep_int r]; cases e; exact ⟨rfl, rfl, rfl⟩
    | str z => rw [rep_str r]; cases e; exact ⟨rfl, rfl, rfl⟩
    | _ => unfold inD at e; cases e
  | d, x, y :: ds, vs, k, r, rs, e => by
    obtain ⟨v, vr, rfl, hv, ht⟩ := rs.uncons
    cases d with
    | int i =>
      cases y with
      | int j =>
        unfold inD at e
        cases e1 : inD (.int i) ds with
        | none => rw [e1] at e; cases e
        | some b =>
          rw [e1] at e
          cases e
          obtain ⟨f1, f2, f3⟩ := in_rep r ht e1
          have hx := rep_int r
          subst hx
          rw [rep_int hv]
          refine ⟨rfl, by rw [List.all_cons, f2]; rfl, ?_⟩
          show (eqV (.int j) (.int i) || inV (.int i) vr) = _
          rw [f3]
          rfl
      | _ => unfold inD at e; cases e
    | str i =>
      cases y with
      | str j =>
        unfold inD at e
        cases e1 : inD (.str i) ds with
        | none => rw [e1] at e; cases e
        | some b =>
          rw [e1] at e
          cases e
          obtain ⟨f1, f2, f3⟩ := in_rep r ht e1
          have hx := rep_str r
          subst hx
          rw [rep_str hv]
          refine ⟨rfl, by rw [List.all_cons, f2]; rfl, ?_⟩
          show (eqV (.str j) (.str i) || inV (.str i) vr) = _
          rw [f3]
          rfl
      | _ => unfold inD at e; cases e
    | _ => unfold inD at e; cases e
theorem op_cmpD (hu : X.A.units + 64 < cLine) {op : CmpOp} (ho : okCmp op = true) : OpR X (compareOp op) (rBin X.K fun x y μ => ofOpt μ ((cmpD μ op x y).map .bl)) := by
  rintro pins s σ H x y v u Q I rx ry ⟨W, ρ, μ, d, e, S, r1, r2, h⟩
  dsimp only at h
  have byInts : ∀ {g : Int → Int → Bool}, OpR X (compareOp op) (rI0 fun i j => .bl (g i j)) → (∀ i j, cmpD μ op (.int i) (.int j) = some (g i j)) → (∀ d e k, cmpD μ op d e = some k → ∃ i j, d = .int i ∧ e = .int j) → wpAny (model X.prog X.w) X.A (compareOp op v u) (EP X pins σ Q) X.xe s := by
    intro g hr h1 h2
    cases ec : cmpD μ op d e with
    | none => rw [ec] at h; exact (show False from h).elim
    | some k =>
      obtain ⟨i, j, rfl, rfl⟩ := h2 d e k ec
      rw [h1] at h
      exact hr pins s σ H x y v u Q I rx ry ⟨i, j, rep_int r1, rep_int r2, Fin.now h S mk_bl⟩
  cases op with
  | Lt => exact byInts op_lt (fun _ _ => rfl) fun d e k hk => by cases d <;> cases e <;> first | exact ⟨_, _, rfl, rfl⟩ | cases hk
  | LtE => exact byInts op_le (fun _ _ => rfl) fun d e k hk => by cases d <;> cases e <;> first | exact ⟨_, _, rfl, rfl⟩ | cases hk
  | Gt => exact byInts op_gt (fun _ _ => rfl) fun d e k hk => by cases d <;> cases e <;> first | exact ⟨_, _, rfl, rfl⟩ | cases hk
  | GtE => exact byInts op_ge (fun _ _ => rfl) fun d e k hk => by cases d <;> cases e <;> first | exact ⟨_, _, rfl, rfl⟩ | cases hk
  | Eq =>
    have e0 : cmpD μ .Eq d e = eqD μ d e := by unfold cmpD; rfl
    rw [e0] at h
    cases ec : eqD μ d e with
    | none => rw [ec] at h; exact (show False from h).elim
    | some k =>
      rw [ec] at h
      rcases eqD_cases S r1 r2 ec with ⟨h1, h2⟩ | ⟨p, q, d1, d2, s1, s2, h2⟩
      · exact op_eq pins s σ H x y v u Q I rx ry ⟨h1, by rw [h2]; exact Fin.now h S mk_bl⟩
      · exact op_eqD hu pins s σ H x y v u Q I rx ry ⟨p, q, d1, d2, s1, s2, by rw [h2]; exact Fin.now h S mk_bl⟩
  | NotEq =>
    have e0 : cmpD μ .NotEq d e = (eqD μ d e).map not := by unfold cmpD; rfl
    rw [e0] at h
    cases ec : eqD μ d e with
    | none => rw [ec] at h; exact (show False from h).elim
    | some k =>
      rw [ec] at h
      rcases eqD_cases S r1 r2 ec with ⟨h1, h2⟩ | ⟨p, q, d1, d2, s1, s2, h2⟩
      · exact op_ne pins s σ H x y v u Q I rx ry ⟨h1, by rw [h2]; exact Fin.now h S mk_bl⟩
      · exact op_neD hu pins s σ H x y v u Q I rx ry ⟨p, q, d1, d2, s1, s2, by rw [h2]; exact Fin.now h S mk_bl⟩
  | In =>
    have e0 : cmpD μ .In d e = (seqOf μ e).bind (inD d) := by unfold cmpD; rfl
    rw [e0] at h
    cases es : seqOf μ e with
    | none => rw [es] at h; exact (show False from h).elim
    | some ds =>
      rw [es] at h
      obtain ⟨a, vs, rfl, q1, hh⟩ := seqOf_sq S r2 es
      cases ek : inD d ds with
      | none => simp only [Option.bind_some, ek] at h; exact (show False from h).elim
      | some k =>
        simp only [Option.bind_some, ek] at h
        obtain ⟨f1, f2, f3⟩ := in_rep r1 q1 ek
        exact op_in_seq pins s σ H x _ v u Q I rx ry ⟨a, vs, rfl, hh.elim (fun z => .inr z.1) (fun z => .inl z.1), f1, f2, by rw [f3]; exact Fin.now h S mk_bl⟩
  | NotIn =>
    have e0 : cmpD μ .NotIn d e = ((seqOf μ e).bind (inD d)).map not := by unfold cmpD; rfl
    rw [e0] at h
    cases es : seqOf μ e with
    | none => rw [es] at h; exact (show False from h).elim
    | some ds =>
      rw [es] at h
      obtain ⟨a, vs, rfl, q1, hh⟩ := seqOf_sq S r2 es
      cases ek : inD d ds with
      | none => simp only [Option.bind_some, ek] at h; exact (show False from h).elim
      | some k =>
        simp only [Option.bind_some, ek] at h
        obtain ⟨f1, f2, f3⟩ := in_rep r1 q1 ek
        exact op_notIn_seq pins s σ H x _ v u Q I rx ry ⟨a, vs, rfl, hh.elim (fun z => .inr z.1) (fun z => .inl z.1), f1, f2, by rw [f3]; exact Fin.now h S mk_bl⟩
  | _ => cases ho

/-! ### subscripts, slices -/
theorem reps_atI {K : PySem.W.Frag} {ρ : List Addr} {H : Hp} {ds : List D} {vs : List V} (r : Reps K ρ H ds vs) {i : Int} {d : D} (h : atI ds i = some d) : ∃ v, atI vs i = some v ∧ Rep K ρ H d v := by
  unfold atI at h ⊢
  rw [r.length]
  cases e : ixN ds.length i with
  | none => rw [e] at h; cases h
  | some j =>
    rw [e] at h
    exact r.get h
theorem ix_D : IxR X (rBin X.K fun x y μ => ofOpt μ (idxD μ x y)) := by
  rintro value slice pins s σ H x y v u Q I rx ry ⟨W, ρ, μ, d, e, S, r1, r2, h⟩ hs
  dsimp only at h
  cases ec : idxD μ d e with
  | none => rw [ec] at h; exact (show False from h).elim
  | some k =>
    rw [ec] at h
    cases e with
    | int i =>
      have y1 := rep_int r2
      by_cases hstr : ∃ z, d = .str z
      · obtain ⟨z, rfl⟩ := hstr
        have ec1 : (if z.length ≤ LIM then (atI z.cps.toList i).map fun c => D.str ⟨#[c]⟩ else none) = some k := ec
        by_cases hl : z.length ≤ LIM
        · rw [if_pos hl] at ec1
          cases ea : atI z.cps.toList i with
          | none => rw [ea] at ec1; cases ec1
          | some c =>
            rw [ea] at ec1
            cases ec1
            exact ix_str value slice pins s σ H x y v u Q I rx ry ⟨z, i, c, rep_str r1, y1, lim_le hl, ea, Fin.now h S mk_str⟩ hs
        · rw [if_neg hl] at ec1; cases ec1
      · have ec2 : ((seqOf μ d).bind fun ds => atI ds i) = some k := by
          cases d with
          | str z => exact absurd ⟨z, rfl⟩ hstr
          | _ => exact ec
        cases es : seqOf μ d with
        | none => rw [es] at ec2; cases ec2
        | some ds =>
          rw [es] at ec2
          have ec3 : atI ds i = some k := ec2
          obtain ⟨a, vs, e1, q1, hh⟩ := seqOf_sq S r1 es
          obtain ⟨w, ea, rw'⟩ := reps_atI q1 ec3
          rcases hh with ⟨t1, _⟩ | ⟨t1, _⟩
          · exact ix_tup value slice pins s σ H x y v u Q I rx ry ⟨a, vs, i, w, e1, y1, t1, ea, Fin.now h S rw'⟩ hs
          · exact ix_list value slice pins s σ H x y v u Q I rx ry ⟨a, vs, i, w, e1, y1, t1, ea, Fin.now h S rw'⟩ hs
    | _ => cases d <;> cases ec
theorem reps_cut {K : PySem.W.Frag} {ρ : List Addr} {H : Hp} {ds : List D} {vs : List V} (r : Reps K ρ H ds vs) (lo hi : Option Int) : Reps K ρ H (cutD ds lo hi) (cutV vs lo hi) := by
  unfold cutD cutV
  rw [r.length]
  exact (r.drop _).take _
theorem cutD_all {ds : List D} {lo hi : Option Int} (h : HT.sIx ds.length 0 lo = 0 ∧ HT.sIx ds.length ds.length hi = ds.length) : cutD ds lo hi = ds := by
  unfold cutD
  rw [h.1, h.2, List.drop_zero, Nat.sub_zero, List.take_length]
def rSlc (K : PySem.W.Frag) : V → Option Int → Option Int → Hp → VK → Prop := fun x lo hi H Q => ∃ (W : XW) (ρ : List Addr) (μ : Sto) (d : D), Sim K ρ H μ ∧ Rep K ρ H d x ∧ Fin (Rep K) W K ρ H (lift (slcD μ lo hi d)) Q
theorem sl_D : SlR X (rSlc X.K) := by
  rintro pins s σ H x v vl vu lo hi sl Q I rx hs pl pu ⟨W, ρ, μ, d, S, r1, h⟩
  cases d with
  | tup ds =>
    obtain ⟨a, vs, e1, t1, q1⟩ := rep_tup r1
    refine sl_tupA pins s σ H x v vl vu lo hi sl Q I rx hs pl pu ⟨a, vs, e1, t1, fun hh => ?_, fun _ p hp => ?_⟩
    · rw [q1.length] at hh
      have h' : Fin (Rep X.K) W X.K ρ H (.ok (.tup (cutD ds lo hi)) μ) Q := h
      rw [cutD_all hh] at h'
      exact Fin.now h' S (mk_tup t1 q1)
    · exact fin_newT S hp (reps_cut q1 lo hi) h
  | rol ds =>
    obtain ⟨a, vs, e1, t1, q1⟩ := rep_rol r1
    exact sl_lk sl_list pins s σ H x v vl vu lo hi sl Q I rx hs pl pu ⟨a, vs, e1, t1.sq, fun p hp => fin_newR S hp (reps_cut q1 lo hi) h⟩
  | obj n =>
    obtain ⟨a, e1, a1⟩ := rep_obj r1
    simp only [slcD] at h
    cases g : μ.get n with
    | none => simp only [g] at h; exact (show False from h).elim
    | some o =>
      simp only [g] at h
      have ro := S.at a1 g
      cases o with
      | lst xs =>
        obtain ⟨vs, h1, q1⟩ := ro
        exact sl_lk sl_list pins s σ H x v vl vu lo hi sl Q I rx hs pl pu ⟨a, vs, e1, .of h1, fun p hp => fin_newR S hp (reps_cut q1 lo hi) h⟩
      | _ => exact (show False from h).elim
  | str z =>
    simp only [slcD] at h
    by_cases hl : z.length ≤ LIM
    · rw [if_pos hl] at h
      exact sl_str pins s σ H x v vl vu lo hi sl Q I rx hs pl pu ⟨z, rep_str r1, lim_le hl, Fin.now h S mk_str⟩
    · rw [if_neg hl] at h; exact (show False from h).elim
  | _ => exact (show False from h).elim

/-! ### built-ins -/
theorem intsOf_map {K : PySem.W.Frag} {ρ : List Addr} {H : Hp} : ∀ {ds : List D} {vs : List V} {ns : List Int}, Reps K ρ H ds vs → intsOf ds = some ns → vs = ns.map V.int
  | [], _, ns, r, e => by rw [r.unnil]; cases e; rfl
  | d :: ds, _, ns, r, e => by
    obtain ⟨v, r', rfl, hv, t⟩ := r.uncons
    cases d with
    | int i =>
      simp only [intsOf] at e
      cases e1 : intsOf ds with
      | none => rw [e1] at e; cases e
      | some ms =>
        rw [e1] at e
        cases e
        rw [rep_int hv, intsOf_map t e1]
        rfl
    | _ => cases e
theorem blsOf_map {K : PySem.W.Frag} {ρ : List Addr} {H : Hp} : ∀ {ds : List D} {vs : List V} {ns : List Bool}, Reps K ρ H ds vs → blsOf ds = some ns → vs = ns.map V.bl
  | [], _, ns, r, e => by rw [r.unnil]; cases e; rfl
  | d :: ds, _, ns, r, e => by
    obtain ⟨v, r', rfl, hv, t⟩ := r.uncons
    cases d with
    | bl i =>
      simp only [blsOf] at e
      cases e1 : blsOf ds with
      | none => rw [e1] at e; cases e
      | some ms =>
        rw [e1] at e
        cases e
        rw [rep_bl hv, blsOf_map t e1]
        rfl
    | _ => cases e
theorem isLst_sq {K : PySem.W.Frag} {ρ : List Addr} {H : Hp} {μ : Sto} (S : Sim K ρ H μ) {d : D} {v : V} {ds : List D} (r : Rep K ρ H d v) (h : isLst μ d = true) (e : seqOf μ d = some ds) : ∃ a vs, v = .ref a ∧ SqL K H a vs ∧ Reps K ρ H ds vs := by
  obtain ⟨a, vs, e1, q, hh⟩ := seqOf_sq S r e
  rcases hh with ⟨_, rfl⟩ | ⟨h1, _⟩
  · cases h
  · exact ⟨a, vs, e1, h1, q⟩
end
end Rf


set_option Elab.async false
set_option linter.all false
set_option maxRecDepth 100000
set_option maxHeartbeats 2000000
/-! Rf, part D: built-ins, walks, targets. -/
namespace Rf
open PySem PySem.Spec PyProof.Rows L2

/-! ### readings, composed -/
def tG {α β : Type} (R : List Addr → Hp → α → β → Prop) (K : PySem.W.Frag) (W : WX) (f : En → Sto → Out α) : L2.St → Hp → (β → Hp → Prop) → Prop :=
  fun σ H Q => ∃ env ρ μ, EnvR K ρ H env σ ∧ Sim K ρ H μ ∧ Fin R (fun c dx H' => W c dx σ H') K ρ H (f env μ) Q
abbrev tI (K : PySem.W.Frag) (W : WX) (f : Dn) : TE := tG (Rep K) K W f
abbrev tIb (K : PySem.W.Frag) (W : WX) (f : En → Sto → Out Bool) : TT := tG rB K W f
abbrev tIa (K : PySem.W.Frag) (W : WX) (f : En → Sto → Out (List D)) : TA := tG (Reps K) K W f
section
variable {K : PySem.W.Frag} {W : WX} {α β α' β' : Type} {R : List Addr → Hp → α → β → Prop} {R' : List Addr → Hp → α' → β' → Prop} {f : En → Sto → Out α} {σ : L2.St} {H : Hp} {Q Q' : β → Hp → Prop}
theorem tG.mono (h : tG R K W f σ H Q) (g : ∀ v H', Q v H' → Q' v H') : tG R K W f σ H Q' := by
  obtain ⟨env, ρ, μ, er, S, q⟩ := h
  exact ⟨env, ρ, μ, er, S, q.mono g⟩
/-- the first part is read, the rest is held -/
theorem go {k : α → Sto → Out α'} {env : En} {ρ : List Addr} {μ : Sto} {Q : β' → Hp → Prop} (er : EnvR K ρ H env σ) (S : Sim K ρ H μ) (h : Fin R' (fun c dx H' => W c dx σ H') K ρ H ((f env μ).bind k) Q) :
    tG R K W f σ H (fun v H1 => ∃ ρ1 μ1 a, Ext K ρ H ρ1 H1 ∧ Sim K ρ1 H1 μ1 ∧ R ρ1 H1 a v ∧ Fin R' (fun c dx H' => W c dx σ H') K ρ1 H1 (k a μ1) Q) :=
  ⟨env, ρ, μ, er, S, Fin.bind h fun d μ1 ρ1 H1 v x s r q => ⟨ρ1, μ1, d, x, s, r, q⟩⟩
theorem go1 {k : En → α → Sto → Out α'} {Q : β' → Hp → Prop} (h : tG R' K W (fun env μ => (f env μ).bind (k env)) σ H Q) :
    tG R K W f σ H (fun v H1 => ∃ env ρ1 μ1 a, EnvR K ρ1 H1 env σ ∧ Sim K ρ1 H1 μ1 ∧ R ρ1 H1 a v ∧ Fin R' (fun c dx H' => W c dx σ H') K ρ1 H1 (k env a μ1) Q) := by
  obtain ⟨env, ρ, μ, er, S, q⟩ := h
  exact (go er S q).mono fun v H1 ⟨ρ1, μ1, a, x, s, r, q1⟩ => ⟨env, ρ1, μ1, a, er.ext x, s, r, q1⟩
theorem fin_bind_ok {out : Option α} {μ : Sto} {k : α → Sto → Out α'} {ρ : List Addr} {W' : XW} {Q : β' → Hp → Prop} (h : Fin R' W' K ρ H ((ofOpt μ out).bind k) Q) : ∃ a, out = some a ∧ Fin R' W' K ρ H (k a μ) Q := by
  cases out with
  | none => exact (show False from h).elim
  | some a => exact ⟨a, rfl, h⟩
theorem fin_ofOpt {out : Option α} {μ : Sto} {ρ : List Addr} {W' : XW} (h : Fin R W' K ρ H (ofOpt μ out) Q) : ∃ a, out = some a ∧ Fin R W' K ρ H (.ok a μ) Q := by
  cases out with
  | none => exact (show False from h).elim
  | some a => exact ⟨a, rfl, h⟩
end

/-! ### built-ins -/
def Bt.name : Bt → Str
  | .len => "len" | .abs => "abs" | .int => "int" | .min2 => "min" | .max2 => "max" | .tuple => "tuple" | .list => "list" | .listM => "list" | .sum => "sum" | .all => "all" | .any => "any"
  | .maxL => "max" | .minL => "min" | .max3 => "max"
def Bt.val : Bt → Value
  | .len => .builtin "len" | .abs => .builtin "abs" | .int => .type "int" | .min2 => .builtin "min" | .max2 => .builtin "max" | .tuple => .type "tuple" | .list => .type "list" | .listM => .type "list"
  | .sum => .builtin "sum" | .all => .builtin "all" | .any => .builtin "any"
  | .maxL => .builtin "max" | .minL => .builtin "min" | .max3 => .builtin "max"
theorem Bt.boot (b : Bt) : bootBuiltins b.name = some b.val := by cases b <;> decide +kernel
section
variable {X : Cx}
theorem reps1 {K : PySem.W.Frag} {ρ : List Addr} {H : Hp} {d : D} {vs : List V} (r : Reps K ρ H [d] vs) : ∃ v, vs = [v] ∧ Rep K ρ H d v := by
  obtain ⟨v, r', rfl, hv, t⟩ := r.uncons
  rw [t.unnil]
  exact ⟨v, rfl, hv⟩
theorem reps2 {K : PySem.W.Frag} {ρ : List Addr} {H : Hp} {d e : D} {vs : List V} (r : Reps K ρ H [d, e] vs) : ∃ v u, vs = [v, u] ∧ Rep K ρ H d v ∧ Rep K ρ H e u := by
  obtain ⟨v, r', rfl, hv, t⟩ := r.uncons
  obtain ⟨u, rfl, hu⟩ := reps1 t
  exact ⟨v, u, rfl, hv, hu⟩
theorem fin_lift {K : PySem.W.Frag} {W : XW} {ρ : List Addr} {H : Hp} {Q : VK} {o : Option (D × Sto)} (h : Fin (Rep K) W K ρ H (lift o) Q) : ∃ d μ, o = some (d, μ) ∧ Fin (Rep K) W K ρ H (.ok d μ) Q := by
  cases o with
  | none => exact (show False from h).elim
  | some p => exact ⟨p.1, p.2, rfl, h⟩
theorem cr_len : CallR X (.builtin "len") (rArg X.K fun ds μ => lift (bltD μ .len ds)) := by
  rintro pins s σ H xs us Q I r ⟨W, ρ, μ, ds, S, rs, h⟩
  obtain ⟨d', μ', e, h2⟩ := fin_lift h
  match ds with
  | [] => exact absurd (show (none : Option (D × Sto)) = _ from e) nofun
  | [d] =>
    obtain ⟨v, rfl, hv⟩ := reps1 rs
    by_cases hstr : ∃ z, d = .str z
    · obtain ⟨z, rfl⟩ := hstr
      have e' : (if z.length ≤ LIM then some (D.int z.length, μ) else none) = some (d', μ') := e
      by_cases hl : z.length ≤ LIM
      · rw [if_pos hl] at e'
        cases e'
        exact call_len_str pins s σ H _ us Q I r ⟨z, by rw [rep_str hv], lim_le hl, Fin.now h2 S mk_int⟩
      · rw [if_neg hl] at e'; cases e'
    · have e' : ((seqOf μ d).map fun ds => (D.int ds.length, μ)) = some (d', μ') := by
        cases d with
        | str z => exact absurd ⟨z, rfl⟩ hstr
        | _ => exact e
      cases es : seqOf μ d with
      | none => rw [es] at e'; cases e'
      | some ds =>
        rw [es] at e'
        cases e'
        obtain ⟨a, vs, rfl, q1, hh⟩ := seqOf_sq S hv es
        refine call_len_seq pins s σ H _ us Q I r ⟨a, vs, rfl, hh.elim (fun z => .inr z.1) (fun z => .inl z.1), ?_⟩
        rw [q1.length]
        exact Fin.now h2 S mk_int
  | _ :: _ :: _ => exact absurd (show (none : Option (D × Sto)) = _ from e) nofun
theorem cr_abs : CallR X (.builtin "abs") (rArg X.K fun ds μ => lift (bltD μ .abs ds)) := by
  rintro pins s σ H xs us Q I r ⟨W, ρ, μ, ds, S, rs, h⟩
  obtain ⟨d', μ', e, h2⟩ := fin_lift h
  replace e : absF μ ds = some (d', μ') := e
  unfold absF at e
  split at e
  · rename_i i
    cases e
    obtain ⟨v, rfl, hv⟩ := reps1 rs
    exact call_abs pins s σ H _ us Q I r ⟨i, by rw [rep_int hv], Fin.now h2 S mk_int⟩
  · cases e
theorem cr_int : CallR X (.type "int") (rArg X.K fun ds μ => lift (bltD μ .int ds)) := by
  rintro pins s σ H xs us Q I r ⟨W, ρ, μ, ds, S, rs, h⟩
  obtain ⟨d', μ', e, h2⟩ := fin_lift h
  replace e : intF μ ds = some (d', μ') := e
  unfold intF at e
  split at e
  · rename_i i
    cases e
    obtain ⟨v, rfl, hv⟩ := reps1 rs
    exact call_int1 pins s σ H _ us Q I r (.inl ⟨i, by rw [rep_int hv], Fin.now h2 S mk_int⟩)
  · rename_i b
    cases e
    obtain ⟨v, rfl, hv⟩ := reps1 rs
    refine call_int1 pins s σ H _ us Q I r (.inr ⟨b, by rw [rep_bl hv], ?_⟩)
    have e2 : (if b then (1 : Int) else 0) = b2i b := by cases b <;> rfl
    rw [e2]
    exact Fin.now h2 S mk_int
  · cases e
theorem cr_two {id : String} {b : Bt} {g : Int → Int → Int} (hr : CallR X (.builtin id) (fun xs H Q => ∃ i j, xs = [.int i, .int j] ∧ Q (.int (g i j)) H)) (hb : ∀ μ ds, bltD μ b ds = twoF g μ ds) : CallR X (.builtin id) (rArg X.K fun ds μ => lift (bltD μ b ds)) := by
  rintro pins s σ H xs us Q I r ⟨W, ρ, μ, ds, S, rs, h⟩
  obtain ⟨d', μ', e, h2⟩ := fin_lift h
  rw [hb] at e
  unfold twoF at e
  split at e
  · rename_i i j
    cases e
    obtain ⟨v, u, rfl, h3, h4⟩ := reps2 rs
    exact hr pins s σ H _ us Q I r ⟨i, j, by rw [rep_int h3, rep_int h4], Fin.now h2 S mk_int⟩
  · cases e
theorem cr_min (hc : X.calm = true) : CallR X (.builtin "min") (rArg X.K fun ds μ => lift (bltD μ .min2 ds)) := cr_two (call_min2 hc) (fun _ _ => rfl)
theorem cr_max (hc : X.calm = true) : CallR X (.builtin "max") (rArg X.K fun ds μ => lift (bltD μ .max2 ds)) := cr_two (call_max2 hc) (fun _ _ => rfl)
theorem oneF_some {g : D → Option (D × Sto)} {ds : List D} {p : D × Sto} (e : oneF g ds = some p) : ∃ d, ds = [d] ∧ g d = some p := by
  unfold oneF at e
  split at e
  · exact ⟨_, rfl, e⟩
  · cases e
theorem cr_tuple : CallR X (.type "tuple") (rArg X.K fun ds μ => lift (bltD μ .tuple ds)) := by
  rintro pins s σ H xs us Q I r ⟨W, ρ, μ, ds, S, rs, h⟩
  obtain ⟨d', μ', e, h2⟩ := fin_lift h
  obtain ⟨d, rfl, e'⟩ := oneF_some e
  obtain ⟨v, rfl, hv⟩ := reps1 rs
  cases es : seqOf μ d with
  | none => rw [es] at e'; cases e'
  | some ds =>
    rw [es] at e'
    cases e'
    obtain ⟨a, vs, rfl, q1, hh⟩ := seqOf_sq S hv es
    refine call_tuple_of pins s σ H _ us Q I r ⟨a, vs, rfl, ?_⟩
    rcases hh with ⟨h3, rfl⟩ | ⟨h3, _⟩
    · exact .inr ⟨h3, Fin.now h2 S (mk_tup h3 q1)⟩
    · exact .inl ⟨h3, fun p hp => fin_newT S hp q1 h2⟩
theorem cr_list : CallR X (.type "list") (rArg X.K fun ds μ => lift (bltD μ .list ds)) := by
  rintro pins s σ H xs us Q I r ⟨W, ρ, μ, ds, S, rs, h⟩
  obtain ⟨d', μ', e, h2⟩ := fin_lift h
  obtain ⟨d, rfl, e'⟩ := oneF_some e
  obtain ⟨v, rfl, hv⟩ := reps1 rs
  cases es : seqOf μ d with
  | none => rw [es] at e'; cases e'
  | some ds =>
    rw [es] at e'
    cases e'
    obtain ⟨a, vs, rfl, q1, hh⟩ := seqOf_sq S hv es
    exact cr_lk call_list_of pins s σ H _ us Q I r ⟨a, vs, rfl, hh.elim (fun z => .inr z.1) (fun z => .inl z.1), fun p hp => fin_newR S hp q1 h2⟩
theorem cr_listM : CallR X (.type "list") (rArg X.K fun ds μ => lift (bltD μ .listM ds)) := by
  rintro pins s σ H xs us Q I r ⟨W, ρ, μ, ds, S, rs, h⟩
  obtain ⟨d', μ', e, h2⟩ := fin_lift h
  obtain ⟨d, rfl, e'⟩ := oneF_some e
  obtain ⟨v, rfl, hv⟩ := reps1 rs
  cases es : seqOf μ d with
  | none => rw [es] at e'; cases e'
  | some ds =>
    rw [es] at e'
    cases e'
    obtain ⟨a, vs, rfl, q1, hh⟩ := seqOf_sq S hv es
    exact call_list_of pins s σ H _ us Q I r ⟨a, vs, rfl, hh.elim (fun z => .inr z.1) (fun z => .inl z.1), fun p hp => fin_newL S hp q1 h2⟩
theorem fold_some {μ : Sto} {α : Type} {of : List D → Option (List α)} {g : List α → D} {d d' : D} {μ' : Sto} (e : (if isLst μ d then ((seqOf μ d).bind of).map fun ns => (g ns, μ) else none) = some (d', μ')) :
    isLst μ d = true ∧ ∃ ds ns, seqOf μ d = some ds ∧ of ds = some ns ∧ d' = g ns ∧ μ' = μ := by
  by_cases hl : isLst μ d = true
  · rw [if_pos hl] at e
    cases es : seqOf μ d with
    | none => rw [es] at e; cases e
    | some ds =>
      rw [es] at e
      have e2 : ((of ds).map fun ns => (g ns, μ)) = some (d', μ') := e
      cases eo : of ds with
      | none => rw [eo] at e2; cases e2
      | some ns => rw [eo] at e2; cases e2; exact ⟨hl, ds, ns, rfl, eo, rfl, rfl⟩
  · rw [if_neg hl] at e; cases e
theorem cr_sumD (hc : X.calm = true) : CallR X (.builtin "sum") (rArg X.K fun ds μ => lift (bltD μ .sum ds)) := by
  rintro pins s σ H xs us Q I r ⟨W, ρ, μ, ds, S, rs, h⟩
  obtain ⟨d', μ', e, h2⟩ := fin_lift h
  obtain ⟨d, rfl, e'⟩ := oneF_some e
  obtain ⟨v, rfl, hv⟩ := reps1 rs
  obtain ⟨hl, ds, ns, es, eo, e1, e2⟩ := fold_some (of := intsOf) (g := fun ns => .int ns.sum) e'
  rw [e1, e2] at h2
  obtain ⟨a, vs, rfl, q1, q2⟩ := isLst_sq S hv hl es
  exact cr_sum hc pins s σ H _ us Q I r ⟨a, ns, rfl, by rw [← intsOf_map q2 eo]; exact q1, Fin.now h2 S mk_int⟩
theorem cr_allD (hc : X.calm = true) : CallR X (.builtin "all") (rArg X.K fun ds μ => lift (bltD μ .all ds)) := by
  rintro pins s σ H xs us Q I r ⟨W, ρ, μ, ds, S, rs, h⟩
  obtain ⟨d', μ', e, h2⟩ := fin_lift h
  obtain ⟨d, rfl, e'⟩ := oneF_some e
  obtain ⟨v, rfl, hv⟩ := reps1 rs
  obtain ⟨hl, ds, ns, es, eo, e1, e2⟩ := fold_some (of := blsOf) (g := fun ns => .bl (ns.all id)) e'
  rw [e1, e2] at h2
  obtain ⟨a, vs, rfl, q1, q2⟩ := isLst_sq S hv hl es
  exact cr_all hc pins s σ H _ us Q I r ⟨a, ns, rfl, by rw [← blsOf_map q2 eo]; exact q1, Fin.now h2 S mk_bl⟩
theorem cr_anyD (hc : X.calm = true) : CallR X (.builtin "any") (rArg X.K fun ds μ => lift (bltD μ .any ds)) := by
  rintro pins s σ H xs us Q I r ⟨W, ρ, μ, ds, S, rs, h⟩
  obtain ⟨d', μ', e, h2⟩ := fin_lift h
  obtain ⟨d, rfl, e'⟩ := oneF_some e
  obtain ⟨v, rfl, hv⟩ := reps1 rs
  obtain ⟨hl, ds, ns, es, eo, e1, e2⟩ := fold_some (of := blsOf) (g := fun ns => .bl (ns.any id)) e'
  rw [e1, e2] at h2
  obtain ⟨a, vs, rfl, q1, q2⟩ := isLst_sq S hv hl es
  exact cr_any hc pins s σ H _ us Q I r ⟨a, ns, rfl, by rw [← blsOf_map q2 eo]; exact q1, Fin.now h2 S mk_bl⟩
theorem fold_mx : ∀ (xs : List Int) (x m : Int), m ∈ x :: xs → (∀ y ∈ x :: xs, y ≤ m) → xs.foldl mx x = m
  | [], x, m, h, _ => by simp only [List.mem_cons, List.not_mem_nil, or_false] at h; exact h.symm
  | y :: xs, x, m, h, g => by
    rw [List.foldl_cons]
    have gx := g x List.mem_cons_self
    have gy := g y (List.mem_cons_of_mem _ List.mem_cons_self)
    have mxe : mx x y = x ∨ mx x y = y := by unfold mx; split <;> simp
    refine fold_mx xs (mx x y) m ?_ fun z hz => ?_
    · simp only [List.mem_cons] at h ⊢
      rcases h with h | h | h
      · left; unfold mx; split <;> omega
      · left; unfold mx; split <;> omega
      · exact .inr h
    · rcases List.mem_cons.mp hz with e | e
      · rcases mxe with q | q <;> rw [e, q] <;> assumption
      · exact g z (List.mem_cons_of_mem _ (List.mem_cons_of_mem _ e))
theorem fold_mn : ∀ (xs : List Int) (x m : Int), m ∈ x :: xs → (∀ y ∈ x :: xs, m ≤ y) → xs.foldl mn x = m
  | [], x, m, h, _ => by simp only [List.mem_cons, List.not_mem_nil, or_false] at h; exact h.symm
  | y :: xs, x, m, h, g => by
    rw [List.foldl_cons]
    have gx := g x List.mem_cons_self
    have gy := g y (List.mem_cons_of_mem _ List.mem_cons_self)
    have mxe : mn x y = x ∨ mn x y = y := by unfold mn; split <;> simp
    refine fold_mn xs (mn x y) m ?_ fun z hz => ?_
    · simp only [List.mem_cons] at h ⊢
      rcases h with h | h | h
      · left; unfold mn; split <;> omega
      · left; unfold mn; split <;> omega
      · exact .inr h
    · rcases List.mem_cons.mp hz with e | e
      · rcases mxe with q | q <;> rw [e, q] <;> assumption
      · exact g z (List.mem_cons_of_mem _ (List.mem_cons_of_mem _ e))
theorem foldL_some {μ : Sto} {of : List Int → Option Int} {d d' : D} {μ' : Sto} (e : (if isLst μ d then (((seqOf μ d).bind intsOf).bind of).map fun n => (D.int n, μ) else none) = some (d', μ')) :
    isLst μ d = true ∧ ∃ ds ns n, seqOf μ d = some ds ∧ intsOf ds = some ns ∧ of ns = some n ∧ d' = .int n ∧ μ' = μ := by
  by_cases hl : isLst μ d = true
  · rw [if_pos hl] at e
    cases es : seqOf μ d with
    | none => rw [es] at e; cases e
    | some ds =>
      rw [es] at e
      have e2 : (((intsOf ds).bind of).map fun n => (D.int n, μ)) = some (d', μ') := e
      cases eo : intsOf ds with
      | none => rw [eo] at e2; cases e2
      | some ns =>
        rw [eo] at e2
        have e3 : ((of ns).map fun n => (D.int n, μ)) = some (d', μ') := e2
        cases en : of ns with
        | none => rw [en] at e3; cases e3
        | some n => rw [en] at e3; cases e3; exact ⟨hl, ds, ns, n, rfl, eo, en, rfl, rfl⟩
  · rw [if_neg hl] at e; cases e
theorem cr_maxLD (hc : X.calm = true) : CallR X (.builtin "max") (rArg X.K fun ds μ => lift (bltD μ .maxL ds)) := by
  rintro pins s σ H xs us Q I r ⟨W, ρ, μ, ds, S, rs, h⟩
  obtain ⟨d', μ', e, h2⟩ := fin_lift h
  obtain ⟨d, rfl, e'⟩ := oneF_some e
  obtain ⟨v, rfl, hv⟩ := reps1 rs
  obtain ⟨hl, ds, ns, n, es, eo, en, e1, e2⟩ := foldL_some (of := maxI) e'
  rw [e1, e2] at h2
  obtain ⟨a, vs, rfl, q1, q2⟩ := isLst_sq S hv hl es
  cases ns with
  | nil => cases en
  | cons x ns =>
    refine L2.cr_max hc pins s σ H _ us Q I r ⟨a, x :: ns, rfl, by rw [← intsOf_map q2 eo]; exact q1, by simp, fun m hm hy => ?_⟩
    have e3 : x :: ns = x :: ns := rfl
    have e4 : ns.foldl mx x = n := Option.some.inj en
    rw [← fold_mx ns x m hm hy, e4]
    exact Fin.now h2 S mk_int
theorem cr_minLD (hc : X.calm = true) : CallR X (.builtin "min") (rArg X.K fun ds μ => lift (bltD μ .minL ds)) := by
  rintro pins s σ H xs us Q I r ⟨W, ρ, μ, ds, S, rs, h⟩
  obtain ⟨d', μ', e, h2⟩ := fin_lift h
  obtain ⟨d, rfl, e'⟩ := oneF_some e
  obtain ⟨v, rfl, hv⟩ := reps1 rs
  obtain ⟨hl, ds, ns, n, es, eo, en, e1, e2⟩ := foldL_some (of := minI) e'
  rw [e1, e2] at h2
  obtain ⟨a, vs, rfl, q1, q2⟩ := isLst_sq S hv hl es
  cases ns with
  | nil => cases en
  | cons x ns =>
    refine L2.cr_min hc pins s σ H _ us Q I r ⟨a, x :: ns, rfl, by rw [← intsOf_map q2 eo]; exact q1, by simp, fun m hm hy => ?_⟩
    have e4 : ns.foldl mn x = n := Option.some.inj en
    rw [← fold_mn ns x m hm hy, e4]
    exact Fin.now h2 S mk_int
theorem cr_max3D (hc : X.calm = true) : CallR X (.builtin "max") (rArg X.K fun ds μ => lift (bltD μ .max3 ds)) := by
  rintro pins s σ H xs us Q I r ⟨W, ρ, μ, ds, S, rs, h⟩
  obtain ⟨d', μ', e, h2⟩ := fin_lift h
  replace e : threeF (fun i j k => mx (mx i j) k) μ ds = some (d', μ') := e
  unfold threeF at e
  split at e
  · rename_i i j k
    cases e
    obtain ⟨v, r', rfl, hv, t⟩ := rs.uncons
    obtain ⟨u, w', rfl, h3, h4⟩ := reps2 t
    refine call_max3Nu hc pins s σ H _ us Q I r ⟨.int i, .int j, .int k, .int (mx (mx i j) k), by rw [rep_int hv, rep_int h3, rep_int h4], ?_, Fin.now h2 S mk_int⟩
    have two : ∀ a b : Int, nuMax2 (.int a) (.int b) = some (.int (mx a b)) := fun a b => by
      show some (if decide (a < b) = true then V.int b else V.int a) = _
      unfold mx
      by_cases h : a < b
      · rw [if_pos (decide_eq_true h), if_pos h]
      · rw [if_neg (by simpa using h), if_neg h]
    unfold nuMax3
    rw [two]
    exact two _ _
  · cases e
theorem cr_D (hc : X.calm = true) (b : Bt) : CallR X b.val (rArg X.K fun ds μ => lift (bltD μ b ds)) := by
  cases b with
  | len => exact cr_len
  | abs => exact cr_abs
  | int => exact cr_int
  | min2 => exact cr_min hc
  | max2 => exact cr_max hc
  | tuple => exact cr_tuple
  | list => exact cr_list
  | listM => exact cr_listM
  | sum => exact cr_sumD hc
  | all => exact cr_allD hc
  | any => exact cr_anyD hc
  | maxL => exact cr_maxLD hc
  | minL => exact cr_minLD hc
  | max3 => exact cr_max3D hc
/-- a call of a built-in by its name -/
theorem pe_bltD {b : Bt} {x : Str} {p pos : Pos} {e : Expr} {es : List Expr} {t : TA} {r : List V → Hp → VK → Prop} (hc : CallR X b.val r) (hg : Gl X x) (hm : X.mg x = none) (hx : x = b.name) (ha : PA X (e :: es) t)
    (he : starEach (e :: es) X.env = (false, eval e X.env) :: starEach es X.env) (hpl : (backTo pos (starEach es X.env)).any (·.1) = false) : PE X (.Call (.Name x p) (e :: es) [] pos) (tCB r t) := by
  subst hx
  have hn : b.name ≠ "__name__" := by cases b <;> decide +kernel
  have hd : (b.name == ("__debug__" : Str)) = false := by cases b <;> decide +kernel
  have hv := b.boot
  cases b with
  | int => exact pe_callTy (T := "int") hc hg hm hv ha hn hd he hpl
  | tuple => exact pe_callTy (T := "tuple") hc hg hm hv ha hn hd he hpl
  | list => exact pe_callTy (T := "list") hc hg hm hv ha hn hd he hpl
  | listM => exact pe_callTy (T := "list") hc hg hm hv ha hn hd he hpl
  | len => exact pe_callB (id := "len") hc hg hm hv ha hn hd he hpl
  | abs => exact pe_callB (id := "abs") hc hg hm hv ha hn hd he hpl
  | min2 => exact pe_callB (id := "min") hc hg hm hv ha hn hd he hpl
  | max2 => exact pe_callB (id := "max") hc hg hm hv ha hn hd he hpl
  | sum => exact pe_callB (id := "sum") hc hg hm hv ha hn hd he hpl
  | all => exact pe_callB (id := "all") hc hg hm hv ha hn hd he hpl
  | any => exact pe_callB (id := "any") hc hg hm hv ha hn hd he hpl
  | maxL => exact pe_callB (id := "max") hc hg hm hv ha hn hd he hpl
  | minL => exact pe_callB (id := "min") hc hg hm hv ha hn hd he hpl
  | max3 => exact pe_callB (id := "max") hc hg hm hv ha hn hd he hpl

/-! ### isinstance of built-in types -/
theorem typD_tyx {K : PySem.W.Frag} {ρ : List Addr} {H : Hp} {μ : Sto} (S : Sim K ρ H μ) {d : D} {v : V} {t : String} (r : Rep K ρ H d v) (e : typD μ d = some t) : TyX K H v (.type t) := by
  cases d with
  | non => cases e; rw [rep_non r]; exact .base .non
  | bl b => cases e; rw [rep_bl r]; exact .base (.bl b)
  | int i => cases e; rw [rep_int r]; exact .base (.int i)
  | str x => cases e; rw [rep_str r]; exact .base (.str x)
  | rep x => cases e; rw [rep_rep r]; exact .base (.str _)
  | err k d => cases e
  | tup ds =>
    cases e
    obtain ⟨a, vs, rfl, h1, _⟩ := rep_tup r
    rcases h1 with (h1 | ⟨o, h1⟩) | ⟨o, its, n, h1, h2, _⟩
    · exact .base (.tup h1)
    · exact .fTuple h1
    · exact .kTuple h1 h2
  | rol ds =>
    cases e
    obtain ⟨a, vs, rfl, h1, _⟩ := rep_rol r
    rcases h1 with ⟨o, h1⟩ | ⟨o, its, n, h1, h2, _⟩
    · exact .base (.frz h1)
    · exact .kList h1 h2
  | obj n =>
    obtain ⟨a, rfl, ha⟩ := rep_obj r
    have e' : (match μ.get n with
      | some (.lst _) => some "list"
      | some (.dK _) => some "dict"
      | some (.dT _) => some "dict"
      | _ => none) = some t := e
    cases eo : μ.get n with
    | none => rw [eo] at e'; cases e'
    | some o =>
      rw [eo] at e'
      have ro := S.at ha eo
      cases o with
      | lst xs => cases e'; obtain ⟨vs, h1, _⟩ := ro; exact .base (.lst h1)
      | dK xs => cases e'; obtain ⟨vs, h1, _⟩ := ro; exact .base (.dK h1)
      | dT xs => cases e'; obtain ⟨vs, h1, _⟩ := ro; exact .base (.dT h1)
      | _ => cases e'
def tyNames : List String := ["NoneType", "bool", "int", "str", "tuple", "list", "dict"]
theorem typD_in {μ : Sto} {d : D} {t : String} (e : typD μ d = some t) : t ∈ tyNames := by
  cases d with
  | obj n =>
    have e' : (match μ.get n with
      | some (.lst _) => some "list"
      | some (.dK _) => some "dict"
      | some (.dT _) => some "dict"
      | _ => none) = some t := e
    cases eo : μ.get n with
    | none => rw [eo] at e'; cases e'
    | some o => rw [eo] at e'; cases o <;> cases e' <;> decide
  | err k d => cases e
  | _ => cases e; decide
theorem kit_table : ∀ t ∈ tyNames, ∀ y : Ty, kitB t y.name = some (isiS t y) := by
  intro t ht y
  simp only [tyNames, List.mem_cons, List.not_mem_nil, or_false] at ht
  rcases ht with rfl | rfl | rfl | rfl | rfl | rfl | rfl <;> cases y <;> decide +kernel
def Ty.pyName : Ty → Str
  | .int => "int" | .bool => "bool" | .str => "str" | .tuple => "tuple" | .list => "list" | .dict => "dict"
theorem Ty.boot (y : Ty) : bootBuiltins y.pyName = some (.type y.name) := by cases y <;> decide +kernel
/-- repr -/
theorem leaf_noDict : (∀ p : PyData, leafOk p = true → p.hasDict = false) ∧ ∀ ps : List PyData, leafsOk ps = true → PyData.hasDictAll ps = false := by
  have key : ∀ n, (∀ p : PyData, sizeOf p ≤ n → leafOk p = true → p.hasDict = false) ∧ ∀ ps : List PyData, sizeOf ps ≤ n → leafsOk ps = true → PyData.hasDictAll ps = false := by
    intro n
    induction n with
    | zero =>
      refine ⟨fun p h => ?_, fun ps h => ?_⟩
      · cases p <;> simp at h
      · cases ps <;> simp at h
    | succ n ih =>
      refine ⟨fun p h hp => ?_, fun ps h hp => ?_⟩
      · cases p with
        | list xs => unfold PyData.hasDict; unfold leafOk at hp; exact ih.2 xs (by simp at h; omega) hp
        | tuple xs => unfold PyData.hasDict; unfold leafOk at hp; exact ih.2 xs (by simp at h; omega) hp
        | dict kvs => unfold leafOk at hp; cases hp
        | _ => unfold PyData.hasDict; rfl
      · cases ps with
        | nil => unfold PyData.hasDictAll; rfl
        | cons x r =>
          unfold leafsOk at hp
          rw [Bool.and_eq_true] at hp
          unfold PyData.hasDictAll
          rw [ih.1 x (by simp at h; omega) hp.1, ih.2 r (by simp at h; omega) hp.2]
          rfl
  exact ⟨fun p => (key _).1 p (Nat.le_refl _), fun ps => (key _).2 ps (Nat.le_refl _)⟩
theorem show_le : (10 : Nat) ^ 570 ≤ 2 ^ 1900 := by decide +kernel
theorem show_log {i : Int} (h : i.natAbs < SHOW) : i.natAbs.log2 < 1900 := PySem.Flt.log2_lt_of (by decide) (Nat.lt_of_lt_of_le (show i.natAbs < 10 ^ 570 from h) show_le)
theorem leaf_show : ∀ n, (∀ p : PyData, sizeOf p ≤ n → leafOk p = true → p.showable = true ∧ p.shown.length ≤ lenB p) ∧ ∀ ps : List PyData, sizeOf ps ≤ n → leafsOk ps = true → PyData.showableAll ps = true ∧ ((PyData.shownAll ps).map (·.length)).sum + 2 * ps.length ≤ lensB ps := by
  intro n
  induction n with
  | zero =>
    refine ⟨fun p h => ?_, fun ps h => ?_⟩
    · cases p <;> simp at h
    · cases ps <;> simp at h
  | succ n ih =>
    refine ⟨fun p h hp => ?_, fun ps h hp => ?_⟩
    · cases p with
      | none => refine ⟨by unfold PyData.showable; rfl, ?_⟩; rw [PyData.shown_none]; unfold lenB; decide +kernel
      | bool b => refine ⟨by unfold PyData.showable; rfl, ?_⟩; rw [PyData.shown_bool]; unfold lenB; cases b <;> decide +kernel
      | int i =>
        unfold leafOk at hp
        have hi := show_log (of_decide_eq_true hp)
        refine ⟨by unfold PyData.showable; exact decide_eq_true (by omega), ?_⟩
        rw [PyData.shown_int]
        unfold lenB
        have e := int_text_length_le10 (k := 570) (by decide) (show i.natAbs < 10 ^ 570 from of_decide_eq_true hp)
        rw [PySem.ofString_length]
        omega
      | str x =>
        unfold leafOk at hp
        refine ⟨by unfold PyData.showable; rfl, ?_⟩
        rw [PyData.shown_str]
        unfold lenB
        exact StrLaws.reprText_len x fun c hc => of_decide_eq_true (List.all_eq_true.mp hp c hc)
      | list xs =>
        unfold leafOk at hp
        obtain ⟨h1, h2⟩ := ih.2 xs (by simp at h; omega) hp
        refine ⟨by unfold PyData.showable; exact h1, ?_⟩
        have h3 := listText_len_le (PyData.shownAll xs)
        rw [PyData.shownAll_length] at h3
        unfold lenB
        have e : (PyData.list xs).shown = listText (PyData.shownAll xs) := by simp only [PyData.shown]
        rw [e]
        omega
      | tuple xs =>
        unfold leafOk at hp
        obtain ⟨h1, h2⟩ := ih.2 xs (by simp at h; omega) hp
        refine ⟨by unfold PyData.showable; exact h1, ?_⟩
        have h3 := tupleText_len_le (PyData.shownAll xs)
        rw [PyData.shownAll_length] at h3
        unfold lenB
        have e : (PyData.tuple xs).shown = tupleText (PyData.shownAll xs) := by simp only [PyData.shown]
        rw [e]
        omega
      | dict kvs => unfold leafOk at hp; cases hp
    · cases ps with
      | nil => exact ⟨by unfold PyData.showableAll; rfl, by rw [PyData.shownAll_nil]; simp⟩
      | cons x r =>
        unfold leafsOk at hp
        rw [Bool.and_eq_true] at hp
        obtain ⟨h1, h2⟩ := ih.1 x (by simp at h; omega) hp.1
        obtain ⟨h3, h4⟩ := ih.2 r (by simp at h; omega) hp.2
        refine ⟨by unfold PyData.showableAll; rw [h1, h3]; rfl, ?_⟩
        rw [PyData.shownAll_cons, List.map_cons, List.sum_cons, List.length_cons]
        unfold lensB
        omega
end
end Rf


set_option Elab.async false
set_option linter.all false
set_option maxRecDepth 100000
set_option maxHeartbeats 2000000
/-! Rf, part E: repr, walks, targets, lists by comprehension. -/
namespace Rf
open PySem PySem.Spec PyProof.Rows L2
section
variable {X : Cx}
/-- repr of data: the text that the model has for it -/
def rRepr (K : PySem.W.Frag) : List V → Hp → VK → Prop := fun xs H Q => ∃ x p, xs = [x] ∧ Dp K H x p ∧ okShow p = true ∧ Q (.str p.shown) H
theorem okShow_facts {p : PyData} (h : okShow p = true) : p.showable = true ∧ p.shown.length ≤ sizeLine ∧ p.hasDict = false ∧ p.depth ≤ 60 := by
  unfold okShow at h
  rw [Bool.and_eq_true, Bool.and_eq_true] at h
  obtain ⟨h1, h2⟩ := (leaf_show _).1 p (Nat.le_refl _) h.1.1
  have e : sizeLine = 16777216 := sizeLine_eq
  have h3 := of_decide_eq_true h.1.2
  exact ⟨h1, by omega, leaf_noDict.1 p h.1.1, of_decide_eq_true h.2⟩
theorem cr_repr (hg : X.A.guards = some []) (hu : X.A.units + 64 < cLine) : CallR X (.builtin "repr") (rRepr X.K) := by
  rintro pins s σ H xs us Q I r ⟨x, p, rfl, hd, hs, q⟩
  obtain ⟨u, rfl, rx⟩ := vals1 r
  obtain ⟨s1, s2, s3, s4⟩ := okShow_facts hs
  have fin : ∀ {h' : Heap} {u' : Tok} {tk : Nat}, (∀ b o, s.heap.get? b = some o → h'.get? b = some o) → EP X pins σ Q (.str p.shown u') { s with heap := h', toks := tk } := fun {h' u' tk} k => ⟨.str p.shown, H, I.kept k, ⟨_, rfl⟩, q⟩
  by_cases hr : ∃ a, u = .ref a
  · obtain ⟨a, rfl⟩ := hr
    obtain ⟨as, hR⟩ := Dp.reads I p x _ hd rx
    exact repr_of_reads' hR s1 (fun z => by rw [s3] at z; cases z) hg (by omega) (fun _ _ e => e) (fun h' u tk k => fin k) s2
  · cases hd with
    | non =>
      obtain rfl : u = Value.none := rx
      rw [PyData.shown_none] at q
      exact PySem.P.repr_of_none ⟨.str _, H, I.tok _, ⟨_, rfl⟩, q⟩
    | bl b =>
      obtain rfl : u = Value.bool b := rx
      rw [PyData.shown_bool] at q
      refine PySem.P.repr_of_bool ⟨.str _, H, I.tok _, ⟨_, rfl⟩, ?_⟩
      cases b <;> exact q
    | int i =>
      obtain ⟨t, rfl⟩ := rx
      rw [PyData.shown_int] at q
      have hi : i.natAbs.log2 < 1920 := by
        have z := s1
        unfold PyData.showable at z
        exact of_decide_eq_true z
      exact PySem.P.repr_of_int hi ⟨.str _, H, I.tok _, ⟨_, rfl⟩, q⟩
    | str y =>
      obtain ⟨t, rfl⟩ := rx
      rw [PyData.shown_str] at q s2
      exact PySem.P.repr_of_str ⟨.str _, H, I.tok _, ⟨_, rfl⟩, q⟩ s2
    | lst h1 h2 => exact absurd ⟨_, rx⟩ hr
    | tup h1 h2 => exact absurd ⟨_, rx⟩ hr
end

/-! ### walks -/
inductive WkR (K : PySem.W.Frag) (ρ : List Addr) (H : Hp) : It → Nat → Wk → Prop where
  | tup {a : Addr} {vs : List V} {ds : List D} {i : Nat} (t : SqT K H a vs) (r : Reps K ρ H ds (vs.drop i)) : WkR K ρ H (Itt K a) i (.itm ds)
  | rol {a : Addr} {vs : List V} {ds : List D} {i : Nat} (t : RoL K H a vs) (r : Reps K ρ H ds (vs.drop i)) : WkR K ρ H (Itl K a) i (.itm ds)
  | zipT {a b : Addr} {vs us : List V} {ds es : List D} {i : Nat} (t : SqT K H a vs) (t' : SqT K H b us) (r : Reps K ρ H ds (vs.drop i)) (r' : Reps K ρ H es (us.drop i)) : WkR K ρ H (RZ.ItzT K a b) i (.itm (zipD ds es))
  | zipR {a b : Addr} {vs us : List V} {ds es : List D} {i : Nat} (t : RoL K H a vs) (t' : RoL K H b us) (r : Reps K ρ H ds (vs.drop i)) (r' : Reps K ρ H es (us.drop i)) : WkR K ρ H (Itz K a b) i (.itm (zipD ds es))
  | enuR {a : Addr} {vs : List V} {ds : List D} {i : Nat} (t : RoL K H a vs) (r : Reps K ρ H ds (vs.drop i)) : WkR K ρ H (Ite K a) i (.itm (enuD i ds))
  | lst {a : Addr} {n i : Nat} (e : ρ[n]? = some a) : WkR K ρ H (Itl K a) i (.lst n i)
  | zip {a b : Addr} {n m i : Nat} (e : ρ[n]? = some a) (e' : ρ[m]? = some b) : WkR K ρ H (Itz K a b) i (.zip n m i)
  | enu {a : Addr} {n i : Nat} (e : ρ[n]? = some a) : WkR K ρ H (Ite K a) i (.enu n i)
  | rng {lo : Int} {n i : Nat} (h : i ≤ n) : WkR K ρ H (Itr lo n) i (.rng (lo + (i : Nat)) (n - i))
section
variable {K : PySem.W.Frag} {ρ ρ' : List Addr} {H H' : Hp} {μ : Sto} {J : It} {i : Nat} {w w' : Wk} {d : D}
theorem WkR.ext0 (x : Ex0 K ρ H ρ' H') (r : WkR K ρ H J i w) : WkR K ρ' H' J i w := by
  cases r with
  | tup t r => exact .tup (x.tup _ _ t) (Reps.ext0 x _ _ r)
  | rol t r => exact .rol (t.ext0 x) (Reps.ext0 x _ _ r)
  | zipT t t' r r' => exact .zipT (x.tup _ _ t) (x.tup _ _ t') (Reps.ext0 x _ _ r) (Reps.ext0 x _ _ r')
  | zipR t t' r r' => exact .zipR (t.ext0 x) (t'.ext0 x) (Reps.ext0 x _ _ r) (Reps.ext0 x _ _ r')
  | enuR t r => exact .enuR (t.ext0 x) (Reps.ext0 x _ _ r)
  | lst e => exact .lst (x.get e)
  | zip e e' => exact .zip (x.get e) (x.get e')
  | enu e => exact .enu (x.get e)
  | rng h => exact .rng h
theorem WkR.ext (x : Ext K ρ H ρ' H') (r : WkR K ρ H J i w) : WkR K ρ' H' J i w := r.ext0 x.ex0
theorem drop_cons {α : Type} {xs : List α} {i : Nat} {x : α} {r : List α} (h : xs.drop i = x :: r) : xs[i]? = some x ∧ xs.drop (i + 1) = r := by
  refine ⟨?_, ?_⟩
  · have := congrArg (fun l => l[0]?) h
    simpa using this
  · rw [← List.drop_drop, h]
    rfl
theorem at_rep {n : Nat} {a : Addr} {ds : List D} (S : Sim K ρ H μ) (e : ρ[n]? = some a) (g : seqOf μ (.obj n) = some ds) : ∃ vs, SqL K H a vs ∧ Reps K ρ H ds vs := by
  obtain ⟨vs, h1, h2⟩ := S.at e (seqOf_obj g)
  exact ⟨vs, .of h1, h2⟩
theorem WkR.step (S : Sim K ρ H μ) (r : WkR K ρ H J i w) (e : w.next μ = some (some (d, w'))) : J.go i H ∧ ∀ x H', J.yld i H x H' → Ext K ρ H ρ H' ∧ Sim K ρ H' μ ∧ Rep K ρ H' d x ∧ WkR K ρ H' J (i + 1) w' := by
  cases r with
  | @tup a vs ds i t r =>
    cases ds with
    | nil => cases e
    | cons d0 ds0 =>
      cases e
      obtain ⟨v, r', e1, hv, ht⟩ := r.uncons
      obtain ⟨g1, g2⟩ := drop_cons e1
      refine ⟨⟨vs, v, t, g1⟩, fun x H' hy => ?_⟩
      obtain ⟨rfl, f⟩ := hy
      have ex := Option.some.inj ((f vs t).symm.trans g1)
      subst ex
      exact ⟨.refl, S, hv, .tup t (by rw [g2]; exact ht)⟩
  | @rol a vs ds i t r =>
    cases ds with
    | nil => cases e
    | cons d0 ds0 =>
      cases e
      obtain ⟨v, r', e1, hv, ht⟩ := r.uncons
      obtain ⟨g1, g2⟩ := drop_cons e1
      refine ⟨⟨vs, v, t.sq, g1⟩, fun x H' hy => ?_⟩
      obtain ⟨rfl, f⟩ := hy
      have ex := Option.some.inj ((f vs t.sq).symm.trans g1)
      subst ex
      exact ⟨.refl, S, hv, .rol t (by rw [g2]; exact ht)⟩
  | @zipT a b vs us ds es i t t' r r' =>
    cases ds with
    | nil => cases e
    | cons d0 ds0 =>
      cases es with
      | nil => cases e
      | cons e0 es0 =>
        cases e
        obtain ⟨v, rv, e1, hv, ht⟩ := r.uncons
        obtain ⟨u, ru, e2, hu, ht'⟩ := r'.uncons
        obtain ⟨g1, g2⟩ := drop_cons e1
        obtain ⟨g3, g4⟩ := drop_cons e2
        refine ⟨⟨vs, us, v, u, t, t', g1, g3⟩, fun x H' hy => ?_⟩
        obtain ⟨T, x1, x2, rfl, nT, rfl, f1, f2⟩ := hy
        have ex1 := Option.some.inj ((f1 vs t).symm.trans g1)
        have ex2 := Option.some.inj ((f2 us t').symm.trans g3)
        subst ex1 ex2
        have xx : Ext K ρ H ρ (upd H T (.tup [x1, x2])) := Ext.new nT
        exact ⟨xx, S.new nT, Rep.newTup nT (.cons hv (.cons hu .nil)), .zipT (xx.tup _ _ t) (xx.tup _ _ t') (by rw [g2]; exact ht.ext xx) (by rw [g4]; exact ht'.ext xx)⟩
  | @zipR a b vs us ds es i t t' r r' =>
    cases ds with
    | nil => cases e
    | cons d0 ds0 =>
      cases es with
      | nil => cases e
      | cons e0 es0 =>
        cases e
        obtain ⟨v, rv, e1, hv, ht⟩ := r.uncons
        obtain ⟨u, ru, e2, hu, ht'⟩ := r'.uncons
        obtain ⟨g1, g2⟩ := drop_cons e1
        obtain ⟨g3, g4⟩ := drop_cons e2
        refine ⟨⟨vs, us, v, u, t.sq, t'.sq, g1, g3⟩, fun x H' hy => ?_⟩
        obtain ⟨T, x1, x2, rfl, nT, rfl, f1, f2⟩ := hy
        have ex1 := Option.some.inj ((f1 vs t.sq).symm.trans g1)
        have ex2 := Option.some.inj ((f2 us t'.sq).symm.trans g3)
        subst ex1 ex2
        have xx : Ext K ρ H ρ (upd H T (.tup [x1, x2])) := Ext.new nT
        exact ⟨xx, S.new nT, Rep.newTup nT (.cons hv (.cons hu .nil)), .zipR (t.ext0 xx.ex0) (t'.ext0 xx.ex0) (by rw [g2]; exact ht.ext xx) (by rw [g4]; exact ht'.ext xx)⟩
  | @enuR a vs ds i t r =>
    cases ds with
    | nil => cases e
    | cons d0 ds0 =>
      cases e
      obtain ⟨v, rv, e1, hv, ht⟩ := r.uncons
      obtain ⟨g1, g2⟩ := drop_cons e1
      refine ⟨⟨vs, v, t.sq, g1⟩, fun x H' hy => ?_⟩
      obtain ⟨T, x1, rfl, nT, rfl, f⟩ := hy
      have ex := Option.some.inj ((f vs t.sq).symm.trans g1)
      subst ex
      have xx : Ext K ρ H ρ (upd H T (.tup [.int (i : Nat), x1])) := Ext.new nT
      exact ⟨xx, S.new nT, Rep.newTup nT (.cons mk_int (.cons hv .nil)), .enuR (t.ext0 xx.ex0) (by rw [g2]; exact ht.ext xx)⟩
  | @lst a n i ea =>
    unfold Wk.next at e
    simp only at e
    cases g : seqOf μ (.obj n) with
    | none => rw [g] at e; cases e
    | some ds =>
      rw [g] at e
      simp only at e
      cases g2 : ds[i]? with
      | none => rw [g2] at e; cases e
      | some d0 =>
        rw [g2] at e
        cases e
        obtain ⟨vs, h1, h2⟩ := at_rep S ea g
        obtain ⟨v, g3, hv⟩ := h2.get g2
        refine ⟨⟨vs, v, h1, g3⟩, fun x H' hy => ?_⟩
        obtain ⟨rfl, f⟩ := hy
        have ex := Option.some.inj ((f vs h1).symm.trans g3)
        subst ex
        exact ⟨.refl, S, hv, .lst ea⟩
  | @zip a b n m i ea eb =>
    unfold Wk.next at e
    simp only at e
    cases g : seqOf μ (.obj n) with
    | none => rw [g] at e; cases e
    | some ds =>
      cases g' : seqOf μ (.obj m) with
      | none => rw [g, g'] at e; cases e
      | some es =>
        rw [g, g'] at e
        simp only at e
        cases g2 : ds[i]? with
        | none => rw [g2] at e; cases e
        | some d0 =>
          cases g3 : es[i]? with
          | none => rw [g2, g3] at e; cases e
          | some e0 =>
            rw [g2, g3] at e
            cases e
            obtain ⟨vs, h1, h2⟩ := at_rep S ea g
            obtain ⟨us, h3, h4⟩ := at_rep S eb g'
            obtain ⟨v, g4, hv⟩ := h2.get g2
            obtain ⟨u, g5, hu⟩ := h4.get g3
            refine ⟨⟨vs, us, v, u, h1, h3, g4, g5⟩, fun x H' hy => ?_⟩
            obtain ⟨T, x1, x2, rfl, nT, rfl, f1, f2⟩ := hy
            have ex1 := Option.some.inj ((f1 vs h1).symm.trans g4)
            have ex2 := Option.some.inj ((f2 us h3).symm.trans g5)
            subst ex1 ex2
            have xx : Ext K ρ H ρ (upd H T (.tup [x1, x2])) := Ext.new nT
            exact ⟨xx, S.new nT, Rep.newTup nT (.cons hv (.cons hu .nil)), .zip ea eb⟩
  | @enu a n i ea =>
    unfold Wk.next at e
    simp only at e
    cases g : seqOf μ (.obj n) with
    | none => rw [g] at e; cases e
    | some ds =>
      rw [g] at e
      simp only at e
      cases g2 : ds[i]? with
      | none => rw [g2] at e; cases e
      | some d0 =>
        rw [g2] at e
        cases e
        obtain ⟨vs, h1, h2⟩ := at_rep S ea g
        obtain ⟨v, g3, hv⟩ := h2.get g2
        refine ⟨⟨vs, v, h1, g3⟩, fun x H' hy => ?_⟩
        obtain ⟨T, x1, rfl, nT, rfl, f⟩ := hy
        have ex := Option.some.inj ((f vs h1).symm.trans g3)
        subst ex
        have xx : Ext K ρ H ρ (upd H T (.tup [.int (i : Nat), x1])) := Ext.new nT
        exact ⟨xx, S.new nT, Rep.newTup nT (.cons mk_int (.cons hv .nil)), .enu ea⟩
  | @rng lo n i h =>
    cases en : n - i with
    | zero => rw [en] at e; cases e
    | succ k =>
      rw [en] at e
      cases e
      refine ⟨show i < n by omega, fun x H' hy => ?_⟩
      obtain ⟨rfl, rfl⟩ := hy
      have e1 : lo + (i : Nat) + 1 = lo + ((i + 1 : Nat) : Int) := by omega
      have e2 : k = n - (i + 1) := by omega
      rw [e1, e2]
      exact ⟨.refl, S, mk_int, .rng (by omega)⟩
theorem zipD_nil : ∀ {ds es : List D}, zipD ds es = [] → ds = [] ∨ es = []
  | [], _, _ => .inl rfl
  | _ :: _, [], _ => .inr rfl
  | _ :: _, _ :: _, h => by cases h
theorem drop_nil_le {α : Type} {xs : List α} {i : Nat} (h : xs.drop i = []) : xs.length ≤ i := by
  have := congrArg List.length h
  rw [List.length_drop] at this
  simp only [List.length_nil] at this
  omega
theorem WkR.stop (S : Sim K ρ H μ) (r : WkR K ρ H J i w) (e : w.next μ = some none) : J.stop i H := by
  cases r with
  | @tup a vs ds i t r =>
    cases ds with
    | nil => exact ⟨vs, t, drop_nil_le r.unnil⟩
    | cons d0 ds0 => cases e
  | @rol a vs ds i t r =>
    cases ds with
    | nil => exact ⟨vs, t.sq, drop_nil_le r.unnil⟩
    | cons d0 ds0 => cases e
  | @zipT a b vs us ds es i t t' r r' =>
    have z : zipD ds es = [] := by
      cases q : zipD ds es with
      | nil => rfl
      | cons d0 ds0 => rw [q] at e; cases e
    rcases zipD_nil z with rfl | rfl
    · exact ⟨vs, us, t, t', .inl (drop_nil_le r.unnil)⟩
    · exact ⟨vs, us, t, t', .inr (drop_nil_le r'.unnil)⟩
  | @zipR a b vs us ds es i t t' r r' =>
    have z : zipD ds es = [] := by
      cases q : zipD ds es with
      | nil => rfl
      | cons d0 ds0 => rw [q] at e; cases e
    rcases zipD_nil z with rfl | rfl
    · exact ⟨vs, us, t.sq, t'.sq, .inl (drop_nil_le r.unnil)⟩
    · exact ⟨vs, us, t.sq, t'.sq, .inr (drop_nil_le r'.unnil)⟩
  | @enuR a vs ds i t r =>
    cases ds with
    | nil => exact ⟨vs, t.sq, drop_nil_le r.unnil⟩
    | cons d0 ds0 => cases e
  | @lst a n i ea =>
    unfold Wk.next at e
    simp only at e
    cases g : seqOf μ (.obj n) with
    | none => rw [g] at e; cases e
    | some ds =>
      rw [g] at e
      simp only at e
      cases g2 : ds[i]? with
      | some d0 => rw [g2] at e; cases e
      | none =>
        obtain ⟨vs, h1, h2⟩ := at_rep S ea g
        exact ⟨vs, h1, by rw [h2.length]; exact List.getElem?_eq_none_iff.mp g2⟩
  | @zip a b n m i ea eb =>
    unfold Wk.next at e
    simp only at e
    cases g : seqOf μ (.obj n) with
    | none => rw [g] at e; cases e
    | some ds =>
      cases g' : seqOf μ (.obj m) with
      | none => rw [g, g'] at e; cases e
      | some es =>
        rw [g, g'] at e
        simp only at e
        obtain ⟨vs, h1, h2⟩ := at_rep S ea g
        obtain ⟨us, h3, h4⟩ := at_rep S eb g'
        refine ⟨vs, us, h1, h3, ?_⟩
        cases g2 : ds[i]? with
        | none => exact .inl (by rw [h2.length]; exact List.getElem?_eq_none_iff.mp g2)
        | some d0 =>
          cases g3 : es[i]? with
          | none => exact .inr (by rw [h4.length]; exact List.getElem?_eq_none_iff.mp g3)
          | some e0 => rw [g2, g3] at e; cases e
  | @enu a n i ea =>
    unfold Wk.next at e
    simp only at e
    cases g : seqOf μ (.obj n) with
    | none => rw [g] at e; cases e
    | some ds =>
      rw [g] at e
      simp only at e
      cases g2 : ds[i]? with
      | some d0 => rw [g2] at e; cases e
      | none =>
        obtain ⟨vs, h1, h2⟩ := at_rep S ea g
        exact ⟨vs, h1, by rw [h2.length]; exact List.getElem?_eq_none_iff.mp g2⟩
  | @rng lo n i h =>
    cases en : n - i with
    | zero => exact show n ≤ i by omega
    | succ k => rw [en] at e; cases e
end
end Rf


set_option Elab.async false
set_option linter.all false
set_option maxRecDepth 100000
set_option maxHeartbeats 2000000
/-! Rf, part F: targets, statements, loops, comprehensions: readings. -/
namespace Rf
open PySem PySem.Spec PyProof.Rows L2

/-! ### flows -/
inductive FlV where
  | nx (σ : L2.St) | rt (v : V) | bk (σ : L2.St) | ct (σ : L2.St) | ex (c : Value) (dx : Option Addr) (σ : L2.St)
def rF (K : PySem.W.Frag) : List Addr → Hp → Fl → FlV → Prop := fun ρ H f g => match f, g with
  | .nx env, .nx σ => EnvR K ρ H env σ
  | .rt d, .rt v => Rep K ρ H d v
  | .bk env, .bk σ => EnvR K ρ H env σ
  | .ct env, .ct σ => EnvR K ρ H env σ
  | .ex c d env, .ex cv dx σ => EnvR K ρ H env σ ∧ cv = .ref (He.ga K c) ∧ ∃ a v, dx = some a ∧ H a = some (.xd [("value", v)]) ∧ Rep K ρ H d v
  | _, _ => False
def qD (W : WX) (D : Ends) : FlV → Hp → Prop
  | .nx σ, H => D.nx σ H
  | .rt v, H => D.rt v H
  | .bk σ, H => D.bk σ H
  | .ct σ, H => D.ct σ H
  | .ex c dx σ, H => W c dx σ H
abbrev nW : XW := fun _ _ _ => False
def tS (K : PySem.W.Frag) (W : WX) (f : Dd) : TS := fun D σ H => ∃ env ρ μ, EnvR K ρ H env σ ∧ Sim K ρ H μ ∧ Fin (rF K) nW K ρ H (f env μ) (qD W D)
section
variable {K : PySem.W.Frag} {W : WX} {α β : Type} {R : List Addr → Hp → α → β → Prop} {f : En → Sto → Out α} {σ : L2.St} {H : Hp} {env : En} {ρ : List Addr} {μ : Sto} {D : Ends}
/-- an expression within a statement is read, the rest is held -/
theorem goS {k : α → Sto → Out Fl} (er : EnvR K ρ H env σ) (S : Sim K ρ H μ) (h : Fin (rF K) nW K ρ H ((f env μ).stm env k) (qD W D)) :
    tG R K W f σ H (fun v H1 => ∃ ρ1 μ1 a, Ext K ρ H ρ1 H1 ∧ Sim K ρ1 H1 μ1 ∧ R ρ1 H1 a v ∧ Fin (rF K) nW K ρ1 H1 (k a μ1) (qD W D)) := by
  refine ⟨env, ρ, μ, er, S, ?_⟩
  cases e : f env μ with
  | ok a μ' =>
    rw [e] at h
    exact fun ρ1 H1 v x s r => ⟨ρ1, μ', a, x, s, r, Fin.ext x h⟩
  | exc c d μ' =>
    rw [e] at h
    exact fun ρ1 H1 dx v x s r z => h ρ1 H1 (.ex (.ref (He.ga K c)) (some dx) σ) x s ⟨er.ext x, rfl, dx, v, rfl, z, r⟩
  | no => rw [e] at h; exact h
/-- a statement within a block -/
theorem goB {f : Dd} {k : Fl → Sto → Out Fl} {D' : Ends} (er : EnvR K ρ H env σ) (S : Sim K ρ H μ) (h : Fin (rF K) nW K ρ H ((f env μ).bind k) (qD W D))
    (hk : ∀ fl g ρ1 H1 μ1, Ext K ρ H ρ1 H1 → Sim K ρ1 H1 μ1 → rF K ρ1 H1 fl g → Fin (rF K) nW K ρ1 H1 (k fl μ1) (qD W D) → qD W D' g H1) : tS K W f D' σ H :=
  ⟨env, ρ, μ, er, S, Fin.bind h fun fl μ1 ρ1 H1 g x s r q => hk fl g ρ1 H1 μ1 x s r q⟩
theorem nowF {fl : Fl} {g : FlV} (h : Fin (rF K) nW K ρ H (.ok fl μ) (qD W D)) (S : Sim K ρ H μ) (r : rF K ρ H fl g) : qD W D g H := Fin.now h S r
end

/-! ### targets -/
def Agree (σ σ' : L2.St) (vs : List Nat) : Prop := σ'.length = σ.length ∧ ∀ j, j ∉ vs → σ'[j]? = σ[j]?
theorem Agree.refl (σ : L2.St) (vs : List Nat) : Agree σ σ vs := ⟨rfl, fun _ _ => rfl⟩
theorem Agree.trans {σ σ' σ2 : L2.St} {vs us : List Nat} (a : Agree σ σ' vs) (b : Agree σ' σ2 us) : Agree σ σ2 (vs ++ us) :=
  ⟨b.1.trans a.1, fun j hj => by
    rw [List.mem_append, not_or] at hj
    rw [b.2 j hj.2, a.2 j hj.1]⟩
def gI (K : PySem.W.Frag) (t : Tg) : TG := fun v σ H Q => ∃ env ρ μ d env', EnvR K ρ H env σ ∧ Sim K ρ H μ ∧ Rep K ρ H d v ∧ t.set d env = some env' ∧ ∀ σ', EnvR K ρ H env' σ' → Agree σ σ' t.slots → Q σ' H
def gsI (K : PySem.W.Frag) (ts : List Tg) : TGs := fun vs σ H Q => ∃ env ρ μ ds env', EnvR K ρ H env σ ∧ Sim K ρ H μ ∧ Reps K ρ H ds vs ∧ Tg.sets ts ds env = some env' ∧ ∀ σ', EnvR K ρ H env' σ' → Agree σ σ' (Tg.slotss ts) → Q σ' H
theorem pg_imp {X : Cx} {e : Expr} {t t' : TG} (h : PG X e t) (f : ∀ v σ H Q, t' v σ H Q → t v σ H Q) : PG X e t' := ⟨fun pins s σ H v u Q I r q => h.run pins s σ H v u Q I r (f v σ H Q q)⟩
theorem pgs_imp {X : Cx} {e : List Expr} {t t' : TGs} (h : PGs X e t) (f : ∀ v σ H Q, t' v σ H Q → t v σ H Q) : PGs X e t' := ⟨fun pins s σ H v u Q I r q => h.run pins s σ H v u Q I r (f v σ H Q q)⟩
theorem agree_set (σ : L2.St) (i : Nat) (v : Option V) : Agree σ (σ.set i v) [i] :=
  ⟨by rw [List.length_set], fun j hj => by rw [List.getElem?_set_ne]; intro e; exact hj (by rw [e]; exact List.mem_singleton.mpr rfl)⟩
/-- what the checker knows of names -/
structure Ck where
  N : List Str
  sc : Scope
  isDef : Bool
def Ck.loc (c : Ck) (x : Str) : Bool := decide (c.sc.names.lookup x = some .local) || (c.isDef && decide (c.sc.names.lookup x = some .cell))
def Ck.vis (c : Ck) (x : Str) : Bool := decide (c.sc.names.lookup x = some .local) || decide (c.sc.names.lookup x = some .cell) || decide (c.sc.names.lookup x = some .free)
def Ck.gl (c : Ck) (x : Str) : Bool := decide (c.sc.names.lookup x = some .globalImplicit)
structure CkOk (c : Ck) (X : Cx) : Prop where
  N : X.N = c.N
  sc : X.env.scope = c.sc
  nd : X.N.Nodup
  calm : X.calm = true
  fn : c.isDef = true → ∀ x, X.fn x = true
mutual
def ckT (c : Ck) : Expr → Tg → Bool
  | .Name x _, .nm i => decide (c.N[i]? = some x) && c.loc x
  | .Tuple es _ _, .tp ts => ckTs c es ts
  | _, _ => false
def ckTs (c : Ck) : List Expr → List Tg → Bool
  | [], [] => true
  | e :: es, t :: ts => ckT c e t && ckTs c es ts
  | _, _ => false
end
theorem ckT_assign {c : Ck} {e : Expr} {t : Tg} (h : ckT c e t = true) (es : List Expr) (env : Env) : assignEach (e :: es) env = (false, assign e env) :: assignEach es env := by
  cases e with
  | Name x p => rfl
  | Tuple es' k p => rfl
  | _ => cases t <;> (unfold ckT at h; cases h)
theorem ckTs_len {c : Ck} : ∀ {es : List Expr} {ts : List Tg} (env : Env), ckTs c es ts = true → (assignEach es env).length = ts.length ∧ (assignEach es env).findIdx? (·.1) = none
  | [], [], env, _ => ⟨rfl, rfl⟩
  | [], _ :: _, _, h => by unfold ckTs at h; cases h
  | _ :: _, [], _, h => by unfold ckTs at h; cases h
  | e :: es, t :: ts, env, h => by
    unfold ckTs at h
    rw [Bool.and_eq_true] at h
    obtain ⟨h1, h2⟩ := ckTs_len env h.2
    rw [ckT_assign h.1]
    refine ⟨by rw [List.length_cons, List.length_cons, h1], ?_⟩
    rw [List.findIdx?_cons, h2]
    rfl
theorem sets_len : ∀ {ts : List Tg} {ds : List D} {env env' : En}, Tg.sets ts ds env = some env' → ds.length = ts.length
  | [], [], _, _, _ => rfl
  | [], _ :: _, _, _, h => by unfold Tg.sets at h; cases h
  | _ :: _, [], _, _, h => by unfold Tg.sets at h; cases h
  | t :: ts, d :: ds, env, env', h => by
    unfold Tg.sets at h
    cases e : Tg.set t d env with
    | none => rw [e] at h; cases h
    | some env1 =>
      rw [e] at h
      rw [List.length_cons, List.length_cons, sets_len (env := env1) (env' := env') h]
section
variable {X : Cx} {c : Ck}
mutual
theorem pg_I (g : CkOk c X) : ∀ (t : Tg) (e : Expr), ckT c e t = true → PG X e (gI X.K t)
  | .nm i, e, h => by
    cases e with
    | Name x p =>
      unfold ckT at h
      rw [Bool.and_eq_true] at h
      have hi : X.N[i]? = some x := by rw [g.N]; exact of_decide_eq_true h.1
      have hl := h.2
      unfold Ck.loc at hl
      rw [Bool.or_eq_true] at hl
      have hx : Loc X.env.scope x := by
        rw [g.sc]
        rcases hl with z | z
        · exact .inl (of_decide_eq_true z)
        · rw [Bool.and_eq_true] at z
          exact .inr (of_decide_eq_true z.2)
      have hf : X.fn x = true ∨ X.env.scope.names.lookup x = some .local := by
        rcases hl with z | z
        · exact .inr (by rw [g.sc]; exact of_decide_eq_true z)
        · rw [Bool.and_eq_true] at z
          exact .inl (g.fn z.1 x)
      refine pg_imp (pg_name g.nd hi hx hf) fun v σ H Q ⟨env, ρ, μ, d, env', er, S, r, e, q⟩ => ?_
      unfold Tg.set at e
      cases e
      exact q _ (er.set r) (agree_set σ i (some v))
    | _ => unfold ckT at h; cases h
  | .tp ts, e, h => by
    cases e with
    | Tuple es k p =>
      unfold ckT at h
      obtain ⟨h1, h2⟩ := ckTs_len X.env h
      refine pg_imp (pg_tup (n := ts.length) g.calm (pgs_I g ts es h) h1 h2) fun v σ H Q ⟨env, ρ, μ, d, env', er, S, r, e, q⟩ => ?_
      cases d with
      | tup ds =>
        unfold Tg.set at e
        obtain ⟨a, vs, rfl, t1, r1⟩ := rep_tup r
        refine ⟨a, vs, rfl, t1, by rw [r1.length, sets_len e], env, ρ, μ, ds, env', er, S, r1, e, fun σ' er' ag => q σ' er' ?_⟩
        unfold Tg.slots
        exact ag
      | _ => unfold Tg.set at e; cases e
    | _ => unfold ckT at h; cases h
theorem pgs_I (g : CkOk c X) : ∀ (ts : List Tg) (es : List Expr), ckTs c es ts = true → PGs X es (gsI X.K ts)
  | [], es, h => by
    cases es with
    | nil =>
      refine pgs_imp pgs_nil fun vs σ H Q ⟨env, ρ, μ, ds, env', er, S, r, e, q⟩ => ?_
      cases ds with
      | nil =>
        unfold Tg.sets at e
        cases e
        exact ⟨r.unnil, q σ er (Agree.refl _ _)⟩
      | cons d ds => unfold Tg.sets at e; cases e
    | cons e es => unfold ckTs at h; cases h
  | t :: ts, es, h => by
    cases es with
    | nil => unfold ckTs at h; cases h
    | cons e es =>
      unfold ckTs at h
      rw [Bool.and_eq_true] at h
      refine pgs_imp (pgs_cons (pg_I g t e h.1) (pgs_I g ts es h.2) (by rw [ckT_assign h.1]; rfl)) fun vs σ H Q ⟨env, ρ, μ, ds, env', er, S, r, e, q⟩ => ?_
      cases ds with
      | nil => unfold Tg.sets at e; cases e
      | cons d ds =>
        obtain ⟨v, vr, rfl, hv, ht⟩ := r.uncons
        unfold Tg.sets at e
        cases e1 : Tg.set t d env with
        | none => rw [e1] at e; cases e
        | some env1 =>
          rw [e1] at e
          refine ⟨v, vr, rfl, env, ρ, μ, d, env1, er, S, hv, e1, fun σ1 er1 ag1 => ⟨env1, ρ, μ, ds, env', er1, S, ht, e, fun σ' er' ag' => q σ' er' ?_⟩⟩
          unfold Tg.slotss
          exact ag1.trans ag'
end
end

/-! ### wiping -/
theorem wipe_at (σ : L2.St) : ∀ (vs : List Nat) (j : Nat), (wipe σ vs)[j]? = if j ∈ vs ∧ j < σ.length then some none else σ[j]?
  | [], j => by simp [wipe]
  | v :: vs, j => by
    unfold wipe
    by_cases h : j = v
    · subst h
      by_cases hl : j < σ.length
      · rw [List.getElem?_set_self (by rw [wipe_length]; exact hl), if_pos ⟨List.mem_cons_self, hl⟩]
      · rw [if_neg (by intro z; exact hl z.2), List.getElem?_eq_none (by rw [List.length_set, wipe_length]; omega), List.getElem?_eq_none (by omega)]
    · rw [List.getElem?_set_ne (fun e => h e.symm), wipe_at σ vs j]
      by_cases h2 : j ∈ vs ∧ j < σ.length
      · rw [if_pos h2, if_pos ⟨List.mem_cons_of_mem _ h2.1, h2.2⟩]
      · rw [if_neg h2, if_neg (by intro z; rcases List.mem_cons.mp z.1 with z1 | z1; exact h z1; exact h2 ⟨z1, z.2⟩)]
theorem wipe_agree {σ σ' : L2.St} {vs us : List Nat} (a : Agree (wipe σ vs) σ' us) (h : ∀ j ∈ us, j ∈ vs) : wipe σ' vs = wipe σ vs := by
  have hl : σ'.length = σ.length := by rw [a.1, wipe_length]
  refine List.ext_getElem? fun j => ?_
  rw [wipe_at, wipe_at, hl]
  by_cases hj : j ∈ vs ∧ j < σ.length
  · rw [if_pos hj, if_pos hj]
  · rw [if_neg hj, if_neg hj]
    by_cases hu : j ∈ us
    · have hv := h j hu
      have : ¬ j < σ.length := fun z => hj ⟨hv, z⟩
      rw [List.getElem?_eq_none (by omega), List.getElem?_eq_none (by omega)]
    · rw [a.2 j hu, wipe_at, if_neg hj]
theorem EnvR.wipe {K : PySem.W.Frag} {ρ : List Addr} {H : Hp} {env : En} {σ : L2.St} (er : EnvR K ρ H env σ) : ∀ vs : List Nat, EnvR K ρ H (wipeD env vs) (L2.wipe σ vs)
  | [] => er
  | v :: vs => by
    have ih := EnvR.wipe er vs
    unfold wipeD L2.wipe
    refine ⟨by rw [List.length_set, List.length_set]; exact ih.len, fun j d hj => ?_⟩
    by_cases h : v = j
    · subst h
      by_cases hl : v < (wipeD env vs).length
      · rw [List.getElem?_set_self hl] at hj; cases hj
      · rw [List.getElem?_eq_none (by rw [List.length_set]; omega)] at hj; cases hj
    · rw [List.getElem?_set_ne h] at hj
      obtain ⟨u, e1, e2⟩ := ih.val j d hj
      exact ⟨u, by rw [List.getElem?_set_ne h]; exact e1, e2⟩

/-! ### a list by a comprehension -/
/-- a comprehension's list is handed on -/
def LcEnd (K : PySem.W.Frag) (nw : Sto → List D → D × Sto) (Q Q' : VK) : Prop := ∀ {W' : XW} {ρ1 ρ2 : List Addr} {H1 H2 : Hp} {μ2 : Sto} {acc : List D} {vs : List V} {D : Addr}, H1 D = none → Ext K ρ1 H1 ρ2 H2 → Sim K ρ2 H2 μ2 → H2 D = some (.lst vs) → D ∉ ρ2 → Reps K ρ2 H2 acc vs →
  Fin (Rep K) W' K ρ1 H1 (lift (some (nw μ2 acc))) Q → Q' (.ref D) H2
theorem lc_newL {K : PySem.W.Frag} {Q : VK} : LcEnd K newL Q Q := by
  intro W' ρ1 ρ2 H1 H2 μ2 acc vs D hD x2 S2 hD2 nD2 r2 h2
  have ad := S2.adopt (b := .lst acc) (by rw [hD2]; trivial) nD2 ⟨vs, hD2, r2⟩
  refine h2 (ρ2 ++ [D]) H2 _ ⟨?_, x2.tup, x2.frz, x2.oth, x2.live, x2.err, x2.tab⟩ ad.1 ad.2
  obtain ⟨ex, e1, e2⟩ := x2.pre
  refine ⟨ex ++ [D], by rw [e1, List.append_assoc], fun a ha => ?_⟩
  rcases List.mem_append.mp ha with z | z
  · exact e2 a z
  · rw [List.mem_singleton.mp z, hD]; exact id
theorem lc_newR {K : PySem.W.Frag} {Q : VK} : LcEnd K newR Q (LkQ Q) := by
  intro W' ρ1 ρ2 H1 H2 μ2 acc vs D hD x2 S2 hD2 nD2 r2 h2
  refine .inr ⟨D, vs, rfl, hD2, fun od => h2 ρ2 _ _ (x2.hand hD hD2 trivial id trivial) (S2.hand hD2 trivial id nD2) ?_⟩
  unfold Rep
  exact ⟨D, vs, rfl, .inl ⟨od, upd_same⟩, Reps.ext0 (Ex0.hand hD2 trivial id) _ _ r2⟩
theorem lc_reads {K : PySem.W.Frag} {W : WX} {t : Tg} {cd : Dt} {e : Dn} {own : List Nat} {wf : Nat} {s : Di} {nw : Sto → List D → D × Sto} (hsl : ∀ j ∈ t.slots, j ∈ own) {σ : L2.St} {H : Hp} {Q Q' : VK} (hend : LcEnd K nw Q Q')
    (h : tG (Rep K) K W (fun env μ => (s env μ).bind fun J μ => (lcD (lcTurn t (wipeD env own) cd e) (J.fuel wf) J [] μ).bind fun ds μ => lift (some (nw μ ds))) σ H Q) : tLc (tG (fun ρ H w J => WkR K ρ H J 0 w) K W s) (gI K t) (tG rB K (fun _ _ _ _ => False) cd) (tG (Rep K) K (fun _ _ _ _ => False) e) own σ H Q' := by
  obtain ⟨env, ρ, μ, er, S, h⟩ := h
  refine (go (R := fun ρ H w J => WkR K ρ H J 0 w) er S h).mono fun J H1 ⟨ρ1, μ1, w, x1, S1, wr, h1⟩ D hD => ?_
  have er1 := er.ext x1
  refine ⟨fun i m H2 => ∃ ρ2 μ2 w2 acc vs, Ext K ρ1 H1 ρ2 H2 ∧ Sim K ρ2 H2 μ2 ∧ WkR K ρ2 H2 J i w2 ∧ H2 D = some (.lst vs) ∧ D ∉ ρ2 ∧ Reps K ρ2 H2 acc vs ∧
      Fin (Rep K) (fun c dx H' => W c dx σ H') K ρ1 H1 ((lcD (lcTurn t (wipeD env own) cd e) m w2 acc μ2).bind fun ds μ => lift (some (nw μ ds))) Q, ⟨w.fuel wf, ρ1, μ1, w, [], [], Ext.new hD, S1.new hD, wr.ext (Ext.new hD), upd_same, fun z => S1.notNew hD D z rfl, .nil, h1⟩, ?_⟩
  rintro i m H2 ⟨ρ2, μ2, w2, acc, vs, x2, S2, wr2, hD2, nD2, r2, h2⟩
  cases m with
  | zero => exact (show False from h2).elim
  | succ m =>
    unfold lcD at h2
    cases en : w2.next μ2 with
    | none => rw [en] at h2; exact (show False from h2).elim
    | some nx =>
      rw [en] at h2
      cases nx with
      | none =>
        refine .inl ⟨wr2.stop S2 en, ?_⟩
        exact hend hD x2 S2 hD2 nD2 r2 h2
      | some p =>
        obtain ⟨d, w3⟩ := p
        obtain ⟨g1, g2⟩ := wr2.step S2 en
        refine .inr ⟨g1, fun H' => ∃ ρ2 μ2 w2 acc vs, Ext K ρ1 H1 ρ2 H' ∧ Sim K ρ2 H' μ2 ∧ WkR K ρ2 H' J (i + 1) w2 ∧ H' D = some (.lst vs) ∧ D ∉ ρ2 ∧ Reps K ρ2 H' acc vs ∧
          Fin (Rep K) (fun c dx H' => W c dx σ H') K ρ1 H1 ((lcD (lcTurn t (wipeD env own) cd e) m w2 acc μ2).bind fun ds μ => lift (some (nw μ ds))) Q, fun H' z => ⟨m, Nat.lt_succ_self m, z⟩, fun x H3 hy => ?_⟩
        obtain ⟨y1, S3, rd, wr3⟩ := g2 x H3 hy
        have er3 := (er1.ext (x2.trans y1)).wipe own
        have D3 : H3 D = some (.lst vs) := y1.oth D _ hD2 nD2 (fun _ z => nomatch z)
        simp only at h2
        -- the turn
        cases et : lcTurn t (wipeD env own) cd e d μ2 with
        | no => rw [et] at h2; exact (show False from h2).elim
        | exc c0 d0 μ0 => rw [et] at h2; exact (show False from h2).elim
        | ok ox μ5 =>
          rw [et] at h2
          unfold lcTurn at et
          cases es : t.set d (wipeD env own) with
          | none => rw [es] at et; cases et
          | some env' =>
            rw [es] at et
            have et : ((cd env' μ2).bind fun k μ => if k then (e env' μ).bind fun x μ => .ok (some x) μ else .ok none μ) = .ok ox μ5 := et
            refine ⟨wipeD env own, ρ2, μ2, d, env', er3, S3, rd, es, fun σ2 er4 ag => ⟨wipe_agree ag hsl, env', ρ2, μ2, er4, S3, ?_⟩⟩
            cases ec : cd env' μ2 with
            | no => rw [ec] at et; cases et
            | exc c0 d0 μ0 => rw [ec] at et; cases et
            | ok k μ4 =>
              rw [ec] at et
              have et : (if k then (e env' μ4).bind fun x μ => Out.ok (some x) μ else .ok none μ4) = .ok ox μ5 := et
              intro ρ4 H4 k' y4 S4 ek
              subst ek
              have D4 : H4 D = some (.lst vs) := y4.oth D _ D3 nD2 (fun _ z => nomatch z)
              have n4 : D ∉ ρ4 := y4.notIn (by rw [D3]; trivial) nD2
              cases k with
              | false =>
                rw [if_neg Bool.false_ne_true] at et
                rw [if_neg Bool.false_ne_true]
                cases et
                exact ⟨ρ4, _, w3, acc, vs, (x2.trans y1).trans y4, S4, wr3.ext y4, D4, n4, r2.ext (y1.trans y4), h2⟩
              | true =>
                rw [if_pos rfl] at et
                rw [if_pos rfl]
                refine ⟨env', ρ4, μ4, er4.ext y4, S4, ?_⟩
                cases ee : e env' μ4 with
                | no => rw [ee] at et; cases et
                | exc c0 d0 μ0 => rw [ee] at et; cases et
                | ok y μ6 =>
                  rw [ee] at et
                  cases et
                  intro ρ5 H5 yv y5 S5 ry
                  have D5 : H5 D = some (.lst vs) := y5.oth D _ D4 n4 (fun _ z => nomatch z)
                  have n5 : D ∉ ρ5 := y5.notIn (by rw [D4]; trivial) n4
                  simp only at h2
                  by_cases hl : acc.length < LIM
                  · rw [if_pos hl] at h2
                    have rr : Reps K ρ5 H5 acc vs := r2.ext ((y1.trans y4).trans y5)
                    have hh : Ex0 K ρ5 H5 ρ5 (upd H5 D (.lst (vs ++ [yv]))) := Ex0.hand D5 trivial id
                    exact ⟨vs, D5, lim_lt (by rw [rr.length]; exact hl), ρ5, μ5, w3, acc ++ [y], vs ++ [yv], (((x2.trans y1).trans y4).trans y5).hand hD D5 trivial id trivial, S5.hand D5 trivial id n5, (wr3.ext (y4.trans y5)).ext0 hh, upd_same, n5, Reps.ext0 hh _ _ (rr.append (.cons ry .nil)), h2⟩
                  · rw [if_neg hl] at h2; exact (show False from h2).elim

/-! ### loops -/
section
variable {K : PySem.W.Frag} {W : WX}
theorem whl_reads {t : Dt} {b : Dd} {wf : Nat} {D : Ends} {σ : L2.St} {H : Hp} (h : tS K W (whlS t b wf) D σ H) : tWhile (tG rB K W t) (tS K W b) D σ H := by
  refine ⟨fun m σ H => tS K W (whlS t b m) D σ H, ⟨wf, h⟩, ?_⟩
  rintro m σ H ⟨env, ρ, μ, er, S, h⟩
  cases m with
  | zero => exact (show False from h).elim
  | succ m =>
    unfold whlS at h
    refine (goS (R := rB) er S h).mono fun k H1 ⟨ρ1, μ1, k', x1, S1, ek, h1⟩ => ?_
    subst ek
    cases k' with
    | false =>
      rw [if_neg Bool.false_ne_true] at h1 ⊢
      exact nowF (g := .nx σ) h1 S1 (er.ext x1)
    | true =>
      rw [if_pos rfl] at h1 ⊢
      refine ⟨fun σ' H' => tS K W (whlS t b m) D σ' H', fun σ' H' z => ⟨m, Nat.lt_succ_self m, z⟩, ?_⟩
      refine goB (er.ext x1) S1 h1 fun fl g ρ2 H2 μ2 x2 S2 r q => ?_
      cases fl <;> cases g <;> first | exact (show False from r).elim | skip
      case nx.nx env2 σ2 => exact ⟨env2, ρ2, μ2, r, S2, q⟩
      case rt.rt d v => exact nowF (D := D) (g := .rt v) q S2 r
      case bk.bk env2 σ2 => exact nowF (D := D) (g := .nx σ2) q S2 r
      case ct.ct env2 σ2 => exact ⟨env2, ρ2, μ2, r, S2, q⟩
      case ex.ex c d env2 cv dx σ2 => exact nowF (D := D) (g := .ex cv dx σ2) q S2 r
theorem for_reads {t : Tg} {b : Dd} {wf : Nat} {s : Di} {D : Ends} {σ : L2.St} {H : Hp} (h : tS K W (foRS wf t s b) D σ H) : tFor (tG (fun ρ H w J => WkR K ρ H J 0 w) K W s) (gI K t) (tS K W b) D σ H := by
  obtain ⟨env, ρ, μ, er, S, h⟩ := h
  refine (goS (R := fun ρ H w J => WkR K ρ H J 0 w) er S h).mono fun J H1 ⟨ρ1, μ1, w, x1, S1, wr, h1⟩ => ?_
  refine ⟨fun i m σ H => ∃ env ρ μ w, EnvR K ρ H env σ ∧ Sim K ρ H μ ∧ WkR K ρ H J i w ∧ Fin (rF K) nW K ρ H (forS t b m w env μ) (qD W D), ⟨w.fuel wf, env, ρ1, μ1, w, er.ext x1, S1, wr, h1⟩, ?_⟩
  rintro i m σ H ⟨env, ρ, μ, w, er, S, wr, h⟩
  cases m with
  | zero => exact (show False from h).elim
  | succ m =>
    unfold forS at h
    cases en : w.next μ with
    | none => rw [en] at h; exact (show False from h).elim
    | some nx =>
      rw [en] at h
      cases nx with
      | none => exact .inl ⟨wr.stop S en, nowF (g := .nx σ) h S er⟩
      | some p =>
        obtain ⟨d, w3⟩ := p
        obtain ⟨g1, g2⟩ := wr.step S en
        refine .inr ⟨g1, fun σ H => ∃ env ρ μ w, EnvR K ρ H env σ ∧ Sim K ρ H μ ∧ WkR K ρ H J (i + 1) w ∧ Fin (rF K) nW K ρ H (forS t b m w env μ) (qD W D), fun σ' H' z => ⟨m, Nat.lt_succ_self m, z⟩, fun x H3 hy => ?_⟩
        obtain ⟨y1, S3, rd, wr3⟩ := g2 x H3 hy
        simp only at h
        cases es : t.set d env with
        | none => rw [es] at h; exact (show False from h).elim
        | some env' =>
          rw [es] at h
          refine ⟨env, ρ, μ, d, env', er.ext y1, S3, rd, es, fun σ2 er4 _ => ?_⟩
          refine goB er4 S3 (Fin.ext y1 h) fun fl g ρ2 H2 μ2 x2 S2 r q => ?_
          cases fl <;> cases g <;> first | exact (show False from r).elim | skip
          case nx.nx env2 σ2 => exact ⟨env2, ρ2, μ2, w3, r, S2, wr3.ext x2, q⟩
          case rt.rt d v => exact nowF (D := D) (g := .rt v) q S2 r
          case bk.bk env2 σ2 => exact nowF (D := D) (g := .nx σ2) q S2 r
          case ct.ct env2 σ2 => exact ⟨env2, ρ2, μ2, w3, r, S2, wr3.ext x2, q⟩
          case ex.ex c d env2 cv dx σ2 => exact nowF (D := D) (g := .ex cv dx σ2) q S2 r
end
end Rf


set_option Elab.async false
set_option linter.all false
set_option maxRecDepth 100000
set_option maxHeartbeats 2000000
/-! Rf, part G: expressions, one by one. -/
namespace Rf
open PySem PySem.Spec PyProof.Rows L2

/-! ### calls of the program's own defs -/
/-- a def's promise: what a function on data tells -/
def spG (K : PySem.W.Frag) (g : List D → Sto → Out D) : Sp := fun vs H Q E => ∃ ρ μ ds, Sim K ρ H μ ∧ Reps K ρ H ds vs ∧ Fin (Rep K) E K ρ H (g ds μ) Q
/-- as FnOk, where no repr is under way -/
structure FnG (P : Program) (w : World) (K : PySem.W.Frag) (mg : Str → Option Value) (base : Heap) (k : Nat) (f : Addr) (fd : FuncData) (ps : List Str) (g : List D → Sto → Out D) : Prop where
  len : ∀ ds μ, g ds μ = .no ∨ ds.length = ps.length
  run : ∀ (A : Around) (outer : List Env) (s : Shared) (H : Hp) (args : Args) (us : List Value) (vs : List V) (Q : VK) (E : XK), Room k A → A.guards = some [] → Env0 P w K mg base A outer s H →
    BindsTo s fd args (ps.zip us) → Vals vs us → spG K g vs H Q E → codeAny (model P w) A (.call (.ref f) args) (CR (CX P w) outer P w H s Q E) s
/-- what is known of the module's names -/
structure Gi where
  fns : List Str
  con : List (Str × D)
  fre : List Str
  ers : List Str := []
  hrd : Bool := false
  cur : Str := ""
/-- the class that all errors are of -/
def topE : Str := "FenceError"
/-- what is known of an error class -/
structure ErrOk (P : Program) (K : PySem.W.Frag) (x : Str) : Prop where
  ex : ∃ (fI D cc cda : Addr) (fd : FuncData), ErrC K D (He.ga K x) ∧ InitC P K fI D cc cda fd ∧ PySem.W.findIn K (.ref (He.ga K x)) "__init__" = some (some (.ref fI)) ∧ PySem.W.typeIn K (.ref fI) = some (.type "function") ∧ Binds K fd ["self", "value"] []
  ec : ExcC K (He.ga K x)
  xf : XfC K (He.ga K x)
  exm : PySem.W.exmOne K (.ref (He.ga K x)) (.ref (He.ga K topE)) = some true
/-- what is known of the def that hears -/
def HrdOk (K : PySem.W.Frag) (mg : Str → Option Value) : Prop :=
  ∃ (g : Addr) (fd : FuncData) (pg : Arguments) (q : Nat → Pos) (k : Nat → Nat) (j : Nat → Nat) (sg : Scope) (dV kV doc pm cdv ct oc : Value) (an od : Option Addr) (osl : Array (Option Value)), mg "_law_heard" = some (.ref g) ∧ PySem.W.keepIn K (.ref g) = true ∧
    fd = PySem.W.fnOf "_law_heard" "_law_heard" pg (heardBody q k j) sg dV kV doc pm an cdv ct ∧ K.lookup g = some ⟨oc, od, .func fd, osl⟩ ∧ PySem.W.codeIn K cdv "_law_heard" = true ∧ Binds K fd ["call"] [] ∧ FnScope NH ["call"] sg ∧
    (∀ y ∈ NH, sg.names.lookup y = some .local) ∧ sg.names.lookup ("FenceError" : Str) = some .globalImplicit ∧ mg "FenceError" = some (.ref (He.ga K topE))
structure GOk (gi : Gi) (cl : Cl) (k : Nat) (X : Cx) : Prop where
  fns : ∀ x ∈ gi.fns, ∃ f fd ps, X.mg x = some (.ref f) ∧ PySem.W.keepIn X.K (.ref f) = true ∧ Binds X.K fd ps [] ∧ FnG X.prog X.w X.K X.mg X.base k f fd ps (cl.call x)
  con : ∀ p ∈ gi.con, ∃ u v, X.mg p.1 = some u ∧ RelV v u ∧ ∀ ρ H, Rep X.K ρ H p.2 v
  fre : ∀ x ∈ gi.fre, X.mg x = none
  room : Room k X.A
  guards : X.A.guards = some []
  ers : ∀ x ∈ gi.ers, X.mg x = some (.ref (He.ga X.K x)) ∧ ErrOk X.prog X.K x
  kit : ∀ k ∈ gi.ers, ∀ x ∈ gi.ers, PySem.W.kitOne X.K (.ref (He.ga X.K k)) (.ref (He.ga X.K x)) = some (decide (x = topE) || decide (k = x))
  sup : gi.ers ≠ [] → X.mg "super" = none
  hrd : gi.hrd = true → HrdOk X.K X.mg

section
variable {X : Cx} {W : WX} {pos : Pos}
theorem goI {f g : Dn} {k : En → D → Sto → Out D} {σ : L2.St} {H : Hp} {Q : VK} (h : tI X.K W (fun env μ => (f env μ).bind (k env)) σ H Q) :
    tI X.K W f σ H (fun v H1 => ∃ env ρ1 μ1 a, EnvR X.K ρ1 H1 env σ ∧ Sim X.K ρ1 H1 μ1 ∧ Rep X.K ρ1 H1 a v ∧ Fin (Rep X.K) (fun c dx H' => W c dx σ H') X.K ρ1 H1 (k env a μ1) Q) := go1 h
/-- constants -/
theorem pe_cstI {p : Expr} {d : D} {v : V} (h : PE X p (tC v)) (r : ∀ ρ H, Rep X.K ρ H d v) : PE X p (tI X.K W fun _ μ => .ok d μ) :=
  pe_imp h fun σ H Q ⟨env, ρ, μ, er, S, q⟩ => Fin.now q S (r ρ H)
theorem pe_varI {i : Nat} {x : Str} (hN : X.N[i]? = some x) (hv : Vis X.env.scope x) (hd : (x == ("__debug__" : Str)) = false) (hc : (x == ("__classdict__" : Str)) = false) : PE X (.Name x pos) (tI X.K W (varD i)) :=
  pe_imp (pe_var hN hv hd hc) fun σ H Q ⟨env, ρ, μ, er, S, q⟩ => by
    unfold varD at q
    cases e : env[i]? with
    | none => rw [e] at q; exact (show False from q).elim
    | some o =>
      cases o with
      | none => rw [e] at q; exact (show False from q).elim
      | some d =>
        rw [e] at q
        obtain ⟨v, e1, r⟩ := er.val i d e
        exact ⟨v, e1, Fin.now q S r⟩
variable {a b c : Expr} {fa fb fc : Dn} {fs : Ds}
theorem pe_binI {op : Operator} (ho : okOp op = true) (ha : PE X a (tI X.K W fa)) (hb : PE X b (tI X.K W fb)) : PE X (.BinOp a op b pos) (tI X.K W (binV op fa fb)) :=
  pe_imp (pe_op (op_binD ho) ha hb) fun σ H Q ⟨env, ρ, μ, er, S, q⟩ =>
    (go (R := Rep X.K) er S q).mono fun x H1 ⟨ρ1, μ1, d, x1, S1, r1, q1⟩ => (go (R := Rep X.K) (er.ext x1) S1 q1).mono fun y H2 ⟨ρ2, μ2, e, x2, S2, r2, q2⟩ => ⟨_, ρ2, μ2, d, e, S2, r1.ext x2, r2, q2⟩
theorem pe_negI (ha : PE X a (tI X.K W fa)) : PE X (.UnaryOp .USub a pos) (tI X.K W (negV fa)) :=
  pe_imp (pe_un un_negD ha) fun σ H Q ⟨env, ρ, μ, er, S, q⟩ => (go (R := Rep X.K) er S q).mono fun x H1 ⟨ρ1, μ1, d, x1, S1, r1, q1⟩ => ⟨_, ρ1, μ1, d, S1, r1, q1⟩
theorem pe_cmpI (hu : X.A.units + 64 < cLine) {op : CmpOp} (ho : okCmp op = true) (ha : PE X a (tI X.K W fa)) (hb : PE X b (tI X.K W fb)) (hm : behindInMarks op b = false) : PE X (.Compare a [op] [b] pos) (tI X.K W (cmpV op fa fb)) :=
  pe_imp (pe_cmpR (op_cmpD hu ho) ha hb hm) fun σ H Q ⟨env, ρ, μ, er, S, q⟩ =>
    (go (R := Rep X.K) er S q).mono fun x H1 ⟨ρ1, μ1, d, x1, S1, r1, q1⟩ => (go (R := Rep X.K) (er.ext x1) S1 q1).mono fun y H2 ⟨ρ2, μ2, e, x2, S2, r2, q2⟩ => ⟨_, ρ2, μ2, d, e, S2, r1.ext x2, r2, q2⟩
theorem fin_bl {K : PySem.W.Frag} {W' : XW} {ρ : List Addr} {H : Hp} {μ : Sto} {o : Option Bool} {Q : Bool → Hp → Prop} (h : Fin rB W' K ρ H (ofOpt μ o) Q) : Fin (Rep K) W' K ρ H (ofOpt μ (o.map D.bl)) (fun x H' => ∃ k, x = .bl k ∧ Q k H') := by
  cases o with
  | none => exact h
  | some k => exact fun ρ' H' v x s r => ⟨k, rep_bl r, h ρ' H' k x s rfl⟩
theorem pt_cmpI (hu : X.A.units + 64 < cLine) {op : CmpOp} (ho : okCmp op = true) (ha : PE X a (tI X.K W fa)) (hb : PE X b (tI X.K W fb)) (hm : behindInMarks op b = false) : PT X (.Compare a [op] [b] pos) (tIb X.K W (cmpT op fa fb)) :=
  pt_imp (pt_cmpR (op_cmpD hu ho) ha hb hm) fun σ H Q ⟨env, ρ, μ, er, S, q⟩ =>
    (go (R := Rep X.K) er S q).mono fun x H1 ⟨ρ1, μ1, d, x1, S1, r1, q1⟩ => (go (R := Rep X.K) (er.ext x1) S1 q1).mono fun y H2 ⟨ρ2, μ2, e, x2, S2, r2, q2⟩ => ⟨_, ρ2, μ2, d, e, S2, r1.ext x2, r2, fin_bl q2⟩
/-- a value's truth -/
theorem pt_mkI {v : Dn} (h : PE X a (tI X.K W v)) (he : ∀ whole, isTrue a X.env whole = (do let v ← whole; standAt a.pos; holding [v] (truthy v))) : PT X a (tIb X.K W (truOf v)) :=
  pt_imp (pt_truth h he) fun σ H Q ⟨env, ρ, μ, er, S, q⟩ => (go (R := Rep X.K) er S q).mono fun x H1 ⟨ρ1, μ1, d, x1, S1, r1, q1⟩ => by
    obtain ⟨k, e, q2⟩ := fin_ofOpt q1
    exact ⟨k, truD_tru S1 r1 e, Fin.now q2 S1 rfl⟩
theorem pe_notI (ha : PE X a (tI X.K W fa)) : PE X (.UnaryOp .Not a pos) (tI X.K W (notV fa)) :=
  pe_imp (pe_notT ha) fun σ H Q ⟨env, ρ, μ, er, S, q⟩ => (go (R := Rep X.K) er S q).mono fun x H1 ⟨ρ1, μ1, d, x1, S1, r1, q1⟩ => by
    obtain ⟨k, e, q2⟩ := fin_ofOpt q1
    cases et : truD μ1 d with
    | none => rw [et] at e; cases e
    | some b => rw [et] at e; cases e; exact ⟨b, truD_tru S1 r1 et, Fin.now q2 S1 mk_bl⟩
theorem pt_notI {ta : Dt} (ha : PT X a (tIb X.K W ta)) : PT X (.UnaryOp .Not a pos) (tIb X.K W (notT ta)) :=
  pt_imp (pt_not ha) fun σ H Q ⟨env, ρ, μ, er, S, q⟩ => (go (R := rB) er S q).mono fun k H1 ⟨ρ1, μ1, d, x1, S1, r1, q1⟩ => by
    subst r1
    exact Fin.now q1 S1 rfl
theorem pe_andI {rest : List Expr} (ha : PE X a (tI X.K W fa)) (hb : PE X (.BoolOp .And (b :: rest) pos) (tI X.K W fb)) : PE X (.BoolOp .And (a :: b :: rest) pos) (tI X.K W (andV fa fb)) :=
  pe_imp (pe_andT ha hb) fun σ H Q ⟨env, ρ, μ, er, S, q⟩ => (go (R := Rep X.K) er S q).mono fun x H1 ⟨ρ1, μ1, d, x1, S1, r1, q1⟩ => by
    obtain ⟨k, e, q2⟩ := fin_bind_ok q1
    refine ⟨k, truD_tru S1 r1 e, ?_⟩
    cases k with
    | true => exact ⟨env, ρ1, μ1, er.ext x1, S1, q2⟩
    | false => exact Fin.now (d := d) q2 S1 r1
theorem pe_orI {rest : List Expr} (ha : PE X a (tI X.K W fa)) (hb : PE X (.BoolOp .Or (b :: rest) pos) (tI X.K W fb)) : PE X (.BoolOp .Or (a :: b :: rest) pos) (tI X.K W (orV fa fb)) :=
  pe_imp (pe_orT ha hb) fun σ H Q ⟨env, ρ, μ, er, S, q⟩ => (go (R := Rep X.K) er S q).mono fun x H1 ⟨ρ1, μ1, d, x1, S1, r1, q1⟩ => by
    obtain ⟨k, e, q2⟩ := fin_bind_ok q1
    refine ⟨k, truD_tru S1 r1 e, ?_⟩
    cases k with
    | false => exact ⟨env, ρ1, μ1, er.ext x1, S1, q2⟩
    | true => exact Fin.now (d := d) q2 S1 r1
theorem pw_andI {rest : List Expr} {ta tb : Dt} (ha : PT X a (tIb X.K W ta)) (hb : PW X (.BoolOp .And (b :: rest) pos) (tIb X.K W tb)) : PW X (.BoolOp .And (a :: b :: rest) pos) (tIb X.K W (andT ta tb)) :=
  pw_imp (pw_and ha hb) fun σ H Q ⟨env, ρ, μ, er, S, q⟩ => (go (R := rB) er S q).mono fun k H1 ⟨ρ1, μ1, d, x1, S1, r1, q1⟩ => by
    subst r1
    cases d with
    | true => exact ⟨env, ρ1, μ1, er.ext x1, S1, q1⟩
    | false => exact Fin.now (d := false) q1 S1 rfl
theorem pw_orI {rest : List Expr} {ta tb : Dt} (ha : PT X a (tIb X.K W ta)) (hb : PW X (.BoolOp .Or (b :: rest) pos) (tIb X.K W tb)) : PW X (.BoolOp .Or (a :: b :: rest) pos) (tIb X.K W (orT ta tb)) :=
  pw_imp (pw_or ha hb) fun σ H Q ⟨env, ρ, μ, er, S, q⟩ => (go (R := rB) er S q).mono fun k H1 ⟨ρ1, μ1, d, x1, S1, r1, q1⟩ => by
    subst r1
    cases d with
    | false => exact ⟨env, ρ1, μ1, er.ext x1, S1, q1⟩
    | true => exact Fin.now (d := true) q1 S1 rfl
theorem pe_ifeI {t : Expr} {tt : Dt} (ht : PT X t (tIb X.K W tt)) (ha : PE X a (tI X.K W fa)) (hb : PE X b (tI X.K W fb)) : PE X (.IfExp t a b pos) (tI X.K W (ifeV tt fa fb)) :=
  pe_imp (pe_ifExp ht ha hb) fun σ H Q ⟨env, ρ, μ, er, S, q⟩ => (go (R := rB) er S q).mono fun k H1 ⟨ρ1, μ1, d, x1, S1, r1, q1⟩ => by
    subst r1
    cases d with
    | true => exact ⟨env, ρ1, μ1, er.ext x1, S1, q1⟩
    | false => exact ⟨env, ρ1, μ1, er.ext x1, S1, q1⟩
theorem isTrue_ife {t a b : Expr} {env : Env} {whole : Sem Value} : isTrue (.IfExp t a b pos) env whole = (do if ← isTrue t env (eval t env) then isTrue a env (eval a env) else isTrue b env (eval b env)) := by rfl
theorem pt_ifeI {t : Expr} {tt ta tb : Dt} (ht : PT X t (tIb X.K W tt)) (ha : PT X a (tIb X.K W ta)) (hb : PT X b (tIb X.K W tb)) : PT X (.IfExp t a b pos) (tIb X.K W (ifeT tt ta tb)) := by
  refine ⟨fun pins s σ H Q I ⟨env, ρ, μ, er, S, q⟩ => ?_⟩
  rw [isTrue_ife]
  refine wpAny_bind (thn (ht.run pins s σ H _ I (go (R := rB) er S q)) fun k s1 ⟨H1, I1, ρ1, μ1, d, x1, S1, r1, q1⟩ => ?_)
  subst r1
  cases d with
  | true => exact ha.run pins s1 σ H1 Q I1 ⟨env, ρ1, μ1, er.ext x1, S1, q1⟩
  | false => exact hb.run pins s1 σ H1 Q I1 ⟨env, ρ1, μ1, er.ext x1, S1, q1⟩
theorem pe_idxI (ha : PE X a (tI X.K W fa)) (hb : PE X b (tI X.K W fb)) (hs : PlainIx b) : PE X (.Subscript a b pos) (tI X.K W (idxV fa fb)) :=
  pe_imp (pe_ix ix_D ha hb hs) fun σ H Q ⟨env, ρ, μ, er, S, q⟩ =>
    (go (R := Rep X.K) er S q).mono fun x H1 ⟨ρ1, μ1, d, x1, S1, r1, q1⟩ => (go (R := Rep X.K) (er.ext x1) S1 q1).mono fun y H2 ⟨ρ2, μ2, e, x2, S2, r2, q2⟩ => ⟨_, ρ2, μ2, d, e, S2, r1.ext x2, r2, q2⟩
/-- an optional bound -/
abbrev rOI : List Addr → Hp → Option Int → Option Int → Prop := fun _ _ a b => a = b
def tIo (K : PySem.W.Frag) (W : WX) (f : Do) : TO := tG rOI K W f
theorem po_imp {X : Cx} {e : Option Expr} {t t' : TO} (h : PO X e t) (f : ∀ σ H Q, t' σ H Q → t σ H Q) : PO X e t' := ⟨fun pins s σ H Q I q => h.run pins s σ H Q I (f σ H Q q)⟩
theorem po_noneI : PO X none (tIo X.K W noneO) := po_imp po_none fun σ H Q ⟨env, ρ, μ, er, S, q⟩ => Fin.now (R := rOI) q S rfl
theorem po_someI (ha : PE X a (tI X.K W fa)) : PO X (some a) (tIo X.K W (someO fa)) :=
  po_imp (po_some ha) fun σ H Q ⟨env, ρ, μ, er, S, q⟩ => (go (R := Rep X.K) er S q).mono fun x H1 ⟨ρ1, μ1, d, x1, S1, r1, q1⟩ => by
    obtain ⟨k, e, q2⟩ := fin_ofOpt q1
    cases d with
    | int i => cases e; exact ⟨i, rep_int r1, Fin.now (R := rOI) q2 S1 rfl⟩
    | _ => cases e
theorem pe_slcI {lo hi : Option Expr} {p2 : Pos} {fl fh : Do} (ha : PE X a (tI X.K W fa)) (hl : PO X lo (tIo X.K W fl)) (hh : PO X hi (tIo X.K W fh)) : PE X (.Subscript a (.Slice lo hi none p2) pos) (tI X.K W (slcV fa fl fh)) :=
  pe_imp (pe_slice sl_D ha hl hh) fun σ H Q ⟨env, ρ, μ, er, S, q⟩ =>
    (go (R := Rep X.K) er S q).mono fun x H1 ⟨ρ1, μ1, d, x1, S1, r1, q1⟩ => (go (R := rOI) (er.ext x1) S1 q1).mono fun l H2 ⟨ρ2, μ2, l', x2, S2, e2, q2⟩ => by
      subst e2
      refine (go (R := rOI) ((er.ext x1).ext x2) S2 q2).mono fun h H3 ⟨ρ3, μ3, h', x3, S3, e3, q3⟩ => ?_
      subst e3
      exact ⟨_, ρ3, μ3, d, S3, (r1.ext x2).ext x3, q3⟩
/-! ### arguments -/
theorem pa_nilI : PA X [] (tIa X.K W nilS) := pa_imp pa_nil fun σ H Q ⟨env, ρ, μ, er, S, q⟩ => Fin.now (R := Reps X.K) q S .nil
theorem pa_consI {es : List Expr} (ha : PE X a (tI X.K W fa)) (hr : PA X es (tIa X.K W fs)) (hs : starEach (a :: es) X.env = (false, eval a X.env) :: starEach es X.env) : PA X (a :: es) (tIa X.K W (consS fa fs)) :=
  pa_imp (pa_cons ha hr hs) fun σ H Q ⟨env, ρ, μ, er, S, q⟩ =>
    (go (R := Rep X.K) er S q).mono fun x H1 ⟨ρ1, μ1, d, x1, S1, r1, q1⟩ => (go (R := Reps X.K) (er.ext x1) S1 q1).mono fun xs H2 ⟨ρ2, μ2, ds, x2, S2, r2, q2⟩ => Fin.now (R := Reps X.K) q2 S2 (.cons (r1.ext x2) r2)
theorem pa_starI {p : Pos} {es : List Expr} (ha : PE X a (tI X.K W fa)) (hr : PA X es (tIa X.K W fs)) : PA X (.Starred a p :: es) (tIa X.K W (starS fa fs)) :=
  pa_imp (StX.pa_star ha hr) fun σ H Q ⟨env, ρ, μ, er, S, q⟩ =>
    (go (R := Rep X.K) er S q).mono fun x H1 ⟨ρ1, μ1, d, x1, S1, r1, q1⟩ => by
      obtain ⟨ds, es, q2⟩ := fin_bind_ok q1
      obtain ⟨a, vs, rfl, rs, hh⟩ := seqOf_sq S1 r1 es
      exact ⟨a, vs, rfl, hh.elim (fun z => .inl z.1) (fun z => .inr z.1), (go (R := Reps X.K) (er.ext x1) S1 q2).mono fun xs H2 ⟨ρ2, μ2, es2, x2, S2, r2, q3⟩ => Fin.now (R := Reps X.K) q3 S2 ((rs.ext x2).append r2)⟩
theorem pe_tupI {es : List Expr} {k : Nat} (h : PA X es (tIa X.K W fs)) : PE X (.Tuple es k pos) (tI X.K W (tupV fs)) :=
  pe_imp (pe_tup h) fun σ H Q ⟨env, ρ, μ, er, S, q⟩ => (go (R := Reps X.K) er S q).mono fun xs H1 ⟨ρ1, μ1, ds, x1, S1, r1, q1⟩ => by
    by_cases hl : ds.length ≤ LIM
    · rw [if_pos hl] at q1
      exact ⟨by rw [r1.length]; exact lim_le hl, fun p hp => fin_newT S1 hp r1 q1⟩
    · rw [if_neg hl] at q1; exact (show False from q1).elim
theorem pe_lstI {es : List Expr} (h : PA X es (tIa X.K W fs)) : PE X (.List es pos) (tI X.K W (lstV fs)) :=
  pe_imp (pe_lk (pe_lst h)) fun σ H Q ⟨env, ρ, μ, er, S, q⟩ => (go (R := Reps X.K) er S q).mono fun xs H1 ⟨ρ1, μ1, ds, x1, S1, r1, q1⟩ => by
    by_cases hl : ds.length ≤ LIM
    · rw [if_pos hl] at q1
      exact ⟨by rw [r1.length]; exact lim_le hl, fun p hp => fin_newR S1 hp r1 q1⟩
    · rw [if_neg hl] at q1; exact (show False from q1).elim
theorem pe_mlsI {es : List Expr} (h : PA X es (tIa X.K W fs)) : PE X (.List es pos) (tI X.K W (mlsV fs)) :=
  pe_imp (pe_lst h) fun σ H Q ⟨env, ρ, μ, er, S, q⟩ => (go (R := Reps X.K) er S q).mono fun xs H1 ⟨ρ1, μ1, ds, x1, S1, r1, q1⟩ => by
    by_cases hl : ds.length ≤ LIM
    · rw [if_pos hl] at q1
      exact ⟨by rw [r1.length]; exact lim_le hl, fun p hp => fin_newL S1 hp r1 q1⟩
    · rw [if_neg hl] at q1; exact (show False from q1).elim
theorem pe_bltI {bt : Bt} {x : Str} {p : Pos} {es : List Expr} (hg : Gl X x) (hm : X.mg x = none) (hx : x = bt.name) (ha : PA X (a :: es) (tIa X.K W fs)) (hc : X.calm = true)
    (he : starEach (a :: es) X.env = (false, eval a X.env) :: starEach es X.env) (hpl : (backTo pos (starEach es X.env)).any (·.1) = false) : PE X (.Call (.Name x p) (a :: es) [] pos) (tI X.K W (bltV bt fs)) :=
  pe_imp (pe_bltD (cr_D hc bt) hg hm hx ha he hpl) fun σ H Q ⟨env, ρ, μ, er, S, q⟩ => (go (R := Reps X.K) er S q).mono fun xs H1 ⟨ρ1, μ1, ds, x1, S1, r1, q1⟩ => ⟨_, ρ1, μ1, ds, S1, r1, q1⟩
theorem pe_isiI {y : Ty} {p p2 : Pos} (hg : Gl X "isinstance") (hm : X.mg "isinstance" = none) (hg2 : Gl X y.pyName) (hm2 : X.mg y.pyName = none) (ha : PE X a (tI X.K W fa)) (hs : starEach (a :: [.Name y.pyName p2]) X.env = (false, eval a X.env) :: starEach [.Name y.pyName p2] X.env) :
    PE X (.Call (.Name "isinstance" p) [a, .Name y.pyName p2] [] pos) (tI X.K W (isiV fa y)) := by
  have hn : y.pyName ≠ "__name__" := by cases y <;> decide +kernel
  have hd : (y.pyName == ("__debug__" : Str)) = false := by cases y <;> decide +kernel
  have pt : PE X (.Name y.pyName p2) (tC (.ty y.name)) := pe_bltn hg2 hm2 y.boot rfl hn hd
  refine pe_imp (pe_callB call_isi hg hm (by decide +kernel) (pa_cons ha (pa_cons pt pa_nil) hs) (by decide +kernel) (by decide +kernel) hs rfl) fun σ H Q ⟨env, ρ, μ, er, S, q⟩ => ?_
  refine (go (R := Rep X.K) er S q).mono fun x H1 ⟨ρ1, μ1, d, x1, S1, r1, q1⟩ => ?_
  obtain ⟨k, e, q2⟩ := fin_ofOpt q1
  unfold isiD at e
  cases et : typD μ1 d with
  | none => rw [et] at e; cases e
  | some t =>
    rw [et] at e
    cases e
    exact ⟨x, .ty y.name, .type t, .type y.name, isiS t y, rfl, .ty _, typD_tyx S1 r1 et, kit_ty (kit_table t (typD_in et) y), Fin.now q2 S1 mk_bl⟩
theorem pe_isnI {ng : Bool} {j : Nat} {p2 : Pos} (ha : PE X a (tI X.K W fa)) : PE X (.Compare a [if ng then .IsNot else .Is] [.Constant .none j p2] pos) (tI X.K W (isnV ng fa)) ∧
    PT X (.Compare a [if ng then .IsNot else .Is] [.Constant .none j p2] pos) (tIb X.K W (truOf (isnV ng fa))) := by
  have key : ∀ {K : PySem.W.Frag} {ρ : List Addr} {H : Hp} {d : D} {x : V}, Rep K ρ H d x → isnD ng d = (if ng then !decide (x = .non) else decide (x = .non)) := by
    intro K ρ H d x r
    cases d with
    | non => rw [rep_non r]; cases ng <;> rfl
    | int i => rw [rep_int r]; cases ng <;> rfl
    | bl i => rw [rep_bl r]; cases ng <;> rfl
    | str i => rw [rep_str r]; cases ng <;> rfl
    | rep i => rw [rep_rep r]; cases ng <;> rfl
    | err k i =>
      unfold Rep at r
      obtain ⟨_, _, _, e, _⟩ := r
      rw [e]; cases ng <;> rfl
    | tup i => obtain ⟨_, _, e, _⟩ := rep_tup r; rw [e]; cases ng <;> rfl
    | rol i => obtain ⟨_, _, e, _⟩ := rep_rol r; rw [e]; cases ng <;> rfl
    | obj i => obtain ⟨_, e, _⟩ := rep_obj r; rw [e]; cases ng <;> rfl
  cases ng with
  | false =>
    refine ⟨pe_imp (pe_cmp (pc_isN ha)) fun σ H Q ⟨env, ρ, μ, er, S, q⟩ => (go (R := Rep X.K) er S q).mono fun x H1 ⟨ρ1, μ1, d, x1, S1, r1, q1⟩ => ?_, pt_imp (pt_cmp (pc_isN ha)) fun σ H Q ⟨env, ρ, μ, er, S, q⟩ => ?_⟩
    · rw [key r1] at q1; exact Fin.now q1 S1 mk_bl
    · refine (go (R := Rep X.K) er S (show Fin rB (fun c dx H' => W c dx σ H') X.K ρ H ((fa env μ).bind fun x μ => .ok (isnD false x) μ) Q from ?_)).mono fun x H1 ⟨ρ1, μ1, d, x1, S1, r1, q1⟩ => ?_
      · unfold truOf isnV at q
        cases e : fa env μ with
        | ok d μ' => rw [e] at q; exact q
        | exc c d μ' => rw [e] at q; exact q
        | no => rw [e] at q; exact q
      · rw [key r1] at q1
        exact ⟨_, rfl, Fin.now (R := rB) q1 S1 rfl⟩
  | true =>
    refine ⟨pe_imp (pe_cmp (pc_notN ha)) fun σ H Q ⟨env, ρ, μ, er, S, q⟩ => (go (R := Rep X.K) er S q).mono fun x H1 ⟨ρ1, μ1, d, x1, S1, r1, q1⟩ => ?_, pt_imp (pt_cmp (pc_notN ha)) fun σ H Q ⟨env, ρ, μ, er, S, q⟩ => ?_⟩
    · rw [key r1] at q1; exact Fin.now q1 S1 mk_bl
    · refine (go (R := Rep X.K) er S (show Fin rB (fun c dx H' => W c dx σ H') X.K ρ H ((fa env μ).bind fun x μ => .ok (isnD true x) μ) Q from ?_)).mono fun x H1 ⟨ρ1, μ1, d, x1, S1, r1, q1⟩ => ?_
      · unfold truOf isnV at q
        cases e : fa env μ with
        | ok d μ' => rw [e] at q; exact q
        | exc c d μ' => rw [e] at q; exact q
        | no => rw [e] at q; exact q
      · rw [key r1] at q1
        exact ⟨_, rfl, Fin.now (R := rB) q1 S1 rfl⟩
/-- a value that is a bool, as a test -/
theorem to_test {v : Dn} {t : TE} (f : ∀ σ H Q, tI X.K W v σ H Q → t σ H Q) (hb : ∀ env μ d μ', v env μ = .ok d μ' → ∃ k, d = .bl k) : ∀ σ H Q, tIb X.K W (truOf v) σ H Q → tTest t σ H Q := by
  intro σ H Q ⟨env, ρ, μ, er, S, q⟩
  refine f σ H _ ⟨env, ρ, μ, er, S, ?_⟩
  unfold truOf at q
  cases e : v env μ with
  | no => rw [e] at q; exact q
  | exc c d μ' => rw [e] at q; exact q
  | ok d μ' =>
    rw [e] at q
    obtain ⟨k, rfl⟩ := hb _ _ _ _ e
    exact fun ρ' H' x y s r => ⟨k, rep_bl r, q ρ' H' k y s rfl⟩
theorem bind_ok {α β : Type} {o : Out α} {k : α → Sto → Out β} {b : β} {μ : Sto} (h : o.bind k = .ok b μ) : ∃ a μ1, o = .ok a μ1 ∧ k a μ1 = .ok b μ := by
  cases o with
  | ok a μ1 => exact ⟨a, μ1, rfl, h⟩
  | exc c d μ1 => cases h
  | no => cases h
theorem ofOpt_ok {α : Type} {μ μ' : Sto} {o : Option α} {a : α} (h : ofOpt μ o = .ok a μ') : o = some a ∧ μ' = μ := by
  cases o with
  | none => cases h
  | some b => cases h; exact ⟨rfl, rfl⟩
theorem chn_red {o1 o2 : CmpOp} (hu : X.A.units + 64 < cLine) (h1 : okCmp o1 = true) (h2 : okCmp o2 = true) : ∀ σ H Q, tI X.K W (chnV o1 o2 fa fb fc) σ H Q →
    tChain (rBin X.K fun x y μ => ofOpt μ ((cmpD μ o1 x y).map .bl)) (rBin X.K fun x y μ => ofOpt μ ((cmpD μ o2 x y).map .bl)) (tI X.K W fa) (tI X.K W fb) (tI X.K W fc) σ H Q := by
  intro σ H Q ⟨env, ρ, μ, er, S, q⟩
  refine (go (R := Rep X.K) er S q).mono fun x H1 ⟨ρ1, μ1, d, x1, S1, r1, q1⟩ => (go (R := Rep X.K) (er.ext x1) S1 q1).mono fun y H2 ⟨ρ2, μ2, e, x2, S2, r2, q2⟩ => ?_
  obtain ⟨k, ek, q3⟩ := fin_bind_ok q2
  refine ⟨nW, ρ2, μ2, d, e, S2, r1.ext x2, r2, ?_⟩
  dsimp only
  rw [ek]
  intro ρ3 H3 z x3 S3 r3
  refine ⟨k, rep_bl r3, ?_⟩
  cases k with
  | false => exact Fin.now (R := Rep X.K) (d := D.bl false) (Fin.ext x3 q3) S3 mk_bl
  | true =>
    refine (go (R := Rep X.K) (((er.ext x1).ext x2).ext x3) S3 (Fin.ext x3 q3)).mono fun z H4 ⟨ρ4, μ4, g, x4, S4, r4, q4⟩ => ⟨_, ρ4, μ4, e, g, S4, (r2.ext x3).ext x4, r4, q4⟩
theorem chn_bl {o1 o2 : CmpOp} : ∀ env μ d μ', chnV o1 o2 fa fb fc env μ = .ok d μ' → ∃ k, d = .bl k := by
  intro env μ d μ' h
  unfold chnV at h
  obtain ⟨a, μ1, _, h⟩ := bind_ok h
  obtain ⟨b, μ2, _, h⟩ := bind_ok h
  obtain ⟨k, μ3, _, h⟩ := bind_ok h
  cases k with
  | false => cases h; exact ⟨_, rfl⟩
  | true =>
    obtain ⟨z, μ4, _, h⟩ := bind_ok h
    obtain ⟨h1, _⟩ := ofOpt_ok h
    cases e : cmpD μ4 o2 b z with
    | none => rw [e] at h1; cases h1
    | some k => rw [e] at h1; cases h1; exact ⟨_, rfl⟩
theorem pe_chnI {o1 o2 : CmpOp} (hu : X.A.units + 64 < cLine) (h1 : okCmp o1 = true) (h2 : okCmp o2 = true) (ha : PE X a (tI X.K W fa)) (hb : PE X b (tI X.K W fb)) (hc : PE X c (tI X.K W fc)) (hm : lastMarks [o1, o2] [b, c] = false) :
    PE X (.Compare a [o1, o2] [b, c] pos) (tI X.K W (chnV o1 o2 fa fb fc)) ∧ PT X (.Compare a [o1, o2] [b, c] pos) (tIb X.K W (truOf (chnV o1 o2 fa fb fc))) :=
  ⟨pe_imp (pe_chain (op_cmpD hu h1) (op_cmpD hu h2) ha hb hc hm) (chn_red hu h1 h2), pt_imp (pt_chain (op_cmpD hu h1) (op_cmpD hu h2) ha hb hc hm) (to_test (chn_red hu h1 h2) chn_bl)⟩
/-! ### repr against repr -/
theorem pyOk_dp {K : PySem.W.Frag} {ρ : List Addr} {H : Hp} {μ : Sto} {d : D} {v : V} {p : PyData} (S : Sim K ρ H μ) (r : Rep K ρ H d v) (e : pyOk μ d = some p) : Dp K H v p ∧ okShow p = true := by
  unfold pyOk at e
  cases e1 : toPy μ FU d with
  | none => rw [e1] at e; cases e
  | some q =>
    rw [e1] at e
    have e2 : (if okShow q then some q else none) = some p := e
    by_cases h : okShow q = true
    · rw [if_pos h] at e2; cases e2; exact ⟨toPy_dp S _ _ _ _ r e1, h⟩
    · rw [if_neg h] at e2; cases e2
theorem pe_rprI {p1 : Pos} (hgd : X.A.guards = some []) (hu : X.A.units + 64 < cLine) (hg : Gl X "repr") (hm : X.mg "repr" = none) (ha : PE X a (tI X.K W fa))
    (sa : starEach [a] X.env = (false, eval a X.env) :: starEach [] X.env) : PE X (.Call (.Name "repr" p1) [a] [] pos) (tI X.K W (rprV fa)) :=
  pe_imp (pe_callB (cr_repr hgd hu) hg hm (by decide +kernel) (pa_cons ha pa_nil sa) (by decide +kernel) (by decide +kernel) sa rfl) fun σ H Q ⟨env, ρ, μ, er, S, q⟩ =>
    (go (R := Rep X.K) er S q).mono fun x H1 ⟨ρ1, μ1, d, x1, S1, r1, q1⟩ => by
      obtain ⟨p, ep, q2⟩ := fin_bind_ok q1
      obtain ⟨d1, d2⟩ := pyOk_dp S1 r1 ep
      exact ⟨x, p, rfl, d1, d2, Fin.now q2 S1 mk_rep⟩
/-- is True, is False -/
theorem isb_red {ng k : Bool} {t : TE} (ht : t = tOp (if ng then rNotB else rIsB) (tI X.K W fa) (tC (.bl k))) : ∀ σ H Q, tI X.K W (isbV ng k fa) σ H Q → t σ H Q := by
  intro σ H Q ⟨env, ρ, μ, er, S, q⟩
  rw [ht]
  refine (go (R := Rep X.K) er S q).mono fun x H1 ⟨ρ1, μ1, d, x1, S1, r1, q1⟩ => ?_
  obtain ⟨b, e, q2⟩ := fin_ofOpt q1
  cases d with
  | bl b' =>
    have ex := rep_bl r1
    subst ex
    cases e
    cases ng with
    | false => exact ⟨b', k, rfl, rfl, Fin.now q2 S1 mk_bl⟩
    | true => exact ⟨b', k, rfl, rfl, Fin.now q2 S1 mk_bl⟩
  | _ => cases e
theorem isb_bl {ng k : Bool} : ∀ env μ d μ', isbV ng k fa env μ = .ok d μ' → ∃ k, d = .bl k := by
  intro env μ d μ' h
  unfold isbV at h
  obtain ⟨a, μ1, _, h⟩ := bind_ok h
  obtain ⟨h1, _⟩ := ofOpt_ok h
  cases a with
  | bl b => cases h1; exact ⟨_, rfl⟩
  | _ => cases h1
theorem pe_isbI {ng k : Bool} {j : Nat} {p2 : Pos} (ha : PE X a (tI X.K W fa)) : PE X (.Compare a [if ng then .IsNot else .Is] [.Constant (.bool k) j p2] pos) (tI X.K W (isbV ng k fa)) ∧
    PT X (.Compare a [if ng then .IsNot else .Is] [.Constant (.bool k) j p2] pos) (tIb X.K W (truOf (isbV ng k fa))) := by
  cases ng with
  | false => exact ⟨pe_imp (pe_cmpR op_isBl ha pe_bl rfl) (isb_red (ng := false) rfl), pt_imp (pt_cmpR op_isBl ha pe_bl rfl) fun σ H Q q => (to_test (isb_red (ng := false) rfl) isb_bl σ H Q q)⟩
  | true => exact ⟨pe_imp (pe_cmpR op_notBl ha pe_bl rfl) (isb_red (ng := true) rfl), pt_imp (pt_cmpR op_notBl ha pe_bl rfl) fun σ H Q q => (to_test (isb_red (ng := true) rfl) isb_bl σ H Q q)⟩
/-- xs[::-1] -/
theorem pe_revI {k : Nat} {p1 p2 p3 : Pos} (ha : PE X a (tI X.K W fa)) : PE X (.Subscript a (.Slice none none (some (.UnaryOp .USub (.Constant (.int 1) k p1) p2)) p3) pos) (tI X.K W (revV fa)) :=
  pe_imp (pe_lk (pe_revL ha)) fun σ H Q ⟨env, ρ, μ, er, S, q⟩ => (go (R := Rep X.K) er S q).mono fun x H1 ⟨ρ1, μ1, d, x1, S1, r1, q1⟩ => by
    cases d with
    | rol ds =>
      obtain ⟨a, vs, rfl, t, r⟩ := rep_rol r1
      exact ⟨a, vs, rfl, t.sq, fun p hp => fin_newR S1 hp r.reverse q1⟩
    | obj n =>
      obtain ⟨p, rfl, hp⟩ := rep_obj r1
      unfold revD at q1
      cases e : μ1.get n with
      | none => simp only [e] at q1; exact (show False from q1).elim
      | some o =>
        cases o with
        | lst ds =>
          simp only [e] at q1
          obtain ⟨vs, h1, h2⟩ := S1.at hp e
          exact ⟨p, vs, rfl, .inl (.inl h1), fun p hp => fin_newR S1 hp h2.reverse q1⟩
        | _ => simp only [e] at q1; exact (show False from q1).elim
    | _ => exact (show False from q1).elim
/-- a list of the store, frozen -/
theorem pe_frzI (ha : PE X a (tI X.K W fa)) : PE X a (tI X.K W (frzV fa)) :=
  pe_imp (pe_lk ha) fun σ H Q ⟨env, ρ, μ, er, S, q⟩ => (go (R := Rep X.K) er S q).mono fun x H1 ⟨ρ1, μ1, d, x1, S1, r1, q1⟩ => by
    cases d with
    | obj n =>
      obtain ⟨p, rfl, hp⟩ := rep_obj r1
      unfold frzD at q1
      cases e : μ1.get n with
      | none => simp only [e] at q1; exact (show False from q1).elim
      | some o =>
        cases o with
        | lst ds =>
          simp only [e] at q1
          obtain ⟨vs, h1, h2⟩ := S1.at hp e
          refine .inr ⟨p, vs, rfl, h1, fun od => ?_⟩
          obtain ⟨x2, S2, r2⟩ := S1.freeze (od := od) hp h1 h2
          exact q1 ρ1 _ _ x2 S2 r2
        | _ => simp only [e] at q1; exact (show False from q1).elim
    | _ => exact (show False from q1).elim
/-! ### own defs -/
theorem pe_calI {k : Nat} {x : Str} {p : Pos} {es : List Expr} {cl : Cl} {f : Addr} {fd : FuncData} {ps : List Str} (F : FnG X.prog X.w X.K X.mg X.base k f fd ps (cl.call x)) (hr : Room k X.A) (hgd : X.A.guards = some []) (hg : Gl X x) (hm : X.mg x = some (.ref f)) (hk : PySem.W.keepIn X.K (.ref f) = true)
    (hb : Binds X.K fd ps []) (tk : Takes X W) (ha : PA X (a :: es) (tIa X.K W fs)) (hdb : (x == ("__debug__" : Str)) = false)
    (he : starEach (a :: es) X.env = (false, eval a X.env) :: starEach es X.env) (hpl : (backTo pos (starEach es X.env)).any (·.1) = false) : PE X (.Call (.Name x p) (a :: es) [] pos) (tI X.K W (calV cl x fs)) := by
  refine ⟨fun pins s σ H Q I ⟨env, ρ, μ, er, S, q⟩ => ?_⟩
  refine wpAny_Call_Name_kw (ld_glob I hg hm ?_ hdb)
  refine PySem.W.callWith_K (h₀ := X.base) I.ok.mod.kin hk (thn (ha.run pos pins s σ H _ I (go (R := Reps X.K) er S q)) fun us s1 ⟨vs, H1, I1, rv, ρ1, μ1, ds, x1, S1, r1, q1⟩ => ⟨I1.kIn, ?_⟩) he hpl
  have hl : us.length = ps.length := by
    rcases F.len ds μ1 with z | z
    · rw [z] at q1; exact (show False from q1).elim
    · rw [← rv.length, r1.length, z]
  have hbd := hb s1 us I1.kIn (by rw [List.append_nil]; exact hl)
  rw [List.append_nil] at hbd
  refine wpAny_call (codeAny_mono (F.run X.A X.stack s1 H1 ⟨us, []⟩ us vs Q (fun c dx H' => W c dx σ H') hr hgd I1.env0 hbd rv ⟨ρ1, μ1, ds, S1, r1, q1⟩) fun r s2 hq => ?_)
  cases r with
  | error e => exact tk e s2 (XE.of_call I1 (fun _ _ _ z => z) hq)
  | ok fl =>
    cases fl with
    | ret u => exact I1.after hq
    | next => exact False.elim hq
    | brk => exact False.elim hq
    | cont => exact False.elim hq
end
end Rf


set_option Elab.async false
set_option linter.all false
set_option maxRecDepth 100000
set_option maxHeartbeats 2000000
/-! Rf, part G2: errors: isinstance, .value, the lambda heard. -/
namespace Rf
open PySem PySem.Spec PyProof.Rows L2
section
variable {X : Cx} {W : WX} {pos : Pos} {a : Expr} {fa : Dn} {gi : Gi} {cl : Cl} {k : Nat}
theorem pe_isEI {es : List Str} {x : Str} {all : Bool} {p p2 : Pos} (g : GOk gi cl k X) (hg : Gl X "isinstance") (hm : X.mg "isinstance" = none) (hes : ∀ z ∈ es, z ∈ gi.ers) (hx : x ∈ gi.ers) (hg2 : Gl X x) (hall : all = decide (x = topE)) (hd : (x == ("__debug__" : Str)) = false)
    (ha : PE X a (tI X.K W fa)) (hs : starEach (a :: [.Name x p2]) X.env = (false, eval a X.env) :: starEach [.Name x p2] X.env) : PE X (.Call (.Name "isinstance" p) [a, .Name x p2] [] pos) (tI X.K W (isEV es fa x all)) := by
  obtain ⟨hmx, _⟩ := g.ers x hx
  have pt : PE X (.Name x p2) (tC (.ref (He.ga X.K x))) := pe_glob (v := .ref (He.ga X.K x)) hg2 hmx rfl hd
  refine pe_imp (pe_callB call_isErr hg hm (by decide +kernel) (pa_cons ha (pa_cons pt pa_nil) hs) (by decide +kernel) (by decide +kernel) hs rfl) fun σ H Q ⟨env, ρ, μ, er, S, q⟩ => ?_
  refine (go (R := Rep X.K) er S q).mono fun v H1 ⟨ρ1, μ1, d, x1, S1, r1, q1⟩ => ?_
  obtain ⟨b, e, q2⟩ := fin_ofOpt q1
  cases d with
  | err c d =>
    replace e : (if c ∈ es then some (D.bl (all || decide (c = x))) else none) = some b := e
    by_cases hc : c ∈ es
    · rw [if_pos hc] at e
      cases e
      have hce := hes c hc
      obtain ⟨_, ec⟩ := g.ers c hce
      unfold Rep at r1
      obtain ⟨ad, dx, w, rfl, h1, h2, _⟩ := r1
      exact ⟨ad, _, dx, _, .ref (He.ga X.K x), .ref (He.ga X.K x), _, rfl, h1, h2, ec.ec, fun u z => z, g.kit c hce x hx, by rw [← hall]; exact Fin.now q2 S1 mk_bl⟩
    · rw [if_neg hc] at e; cases e
  | _ => cases e
theorem pe_fldI {es : List Str} (g : GOk gi cl k X) (hes : ∀ z ∈ es, z ∈ gi.ers) (ha : PE X a (tI X.K W fa)) (hb : attributeBase a "value" X.env (eval a X.env) = eval a X.env) : PE X (.Attribute a "value" pos) (tI X.K W (fldV es fa)) := by
  refine pe_imp (pe_errF ha hb) fun σ H Q ⟨env, ρ, μ, er, S, q⟩ => ?_
  refine (go (R := Rep X.K) er S q).mono fun v H1 ⟨ρ1, μ1, d, x1, S1, r1, q1⟩ => ?_
  obtain ⟨b, e, q2⟩ := fin_ofOpt q1
  cases d with
  | err c d =>
    replace e : (if c ∈ es then some d else none) = some b := e
    by_cases hc : c ∈ es
    · rw [if_pos hc] at e
      cases e
      obtain ⟨_, ec⟩ := g.ers c (hes c hc)
      unfold Rep at r1
      obtain ⟨ad, dx, w, rfl, h1, h2, r⟩ := r1
      obtain ⟨_, _, _, _, _, T, _⟩ := ec.ex
      exact ⟨ad, _, dx, _, w, rfl, h1, h2, ec.xf, T.noV, rfl, Fin.now q2 S1 r⟩
    · rw [if_neg hc] at e; cases e
  | _ => cases e
end
end Rf


set_option Elab.async false
set_option linter.all false
set_option maxRecDepth 100000
set_option maxHeartbeats 2000000
/-! Rf, part G3: the lambda heard. -/
namespace Rf
open PySem PySem.Spec PyProof.Rows L2 LamX
theorem Ext.ofN {K : PySem.W.Frag} {ρ : List Addr} {H H1 : Hp} (e : ExtN H H1) (t : Tabs (tabsOf K) H1) : Ext K ρ H ρ H1 := by
  refine ⟨⟨[], by simp, fun _ z => nomatch z⟩, fun a vs h => ?_, fun a o u h => e _ _ h (fun _ z => nomatch z), fun a o h _ nt => e _ _ h nt, fun a h => ?_, fun a o k h => e _ _ h (fun ps z => by rw [z] at k; exact k), fun _ => t⟩
  · rcases h with (h | ⟨o, h⟩) | h
    · exact .inl (.inl (e _ _ h (fun _ z => nomatch z)))
    · exact .inl (.inr ⟨o, e _ _ h (fun _ z => nomatch z)⟩)
    · exact .inr h
  · cases q : H a with
    | none => rw [q] at h; exact h.elim
    | some o =>
      rw [q] at h
      rw [e _ _ q (fun ps => h.no)]
      exact h
theorem Sim.ofN {K : PySem.W.Frag} {ρ : List Addr} {H H1 : Hp} {μ : Sto} (S : Sim K ρ H μ) (e : ExtN H H1) (t : Tabs (tabsOf K) H1) : Sim K ρ H1 μ :=
  S.keep (Ext.ofN e t) fun a ha => by
    have l := S.live a ha
    cases q : H a with
    | none => rw [q] at l; exact l.elim
    | some o =>
      rw [q] at l
      exact e _ _ q fun ps => l.no
/-- the reading: what the lambda's body tells, heard -/
theorem hrd_reads {X : Cx} {W : WX} {es : List Str} {fb : Dn} {σ : L2.St} {H : Hp} {Q : VK} (hes : ∀ z ∈ es, PySem.W.exmOne X.K (.ref (He.ga X.K z)) (.ref (He.ga X.K topE)) = some true) (h : tI X.K W (hrdV es fb) σ H Q) :
    tLam (tabsOf X.K) (THeard X.K (He.ga X.K topE)) (fun E => tI X.K (fun cls d _ H' => E cls d H') fb) σ H Q := by
  obtain ⟨env, ρ, μ, er, S, q⟩ := h
  refine ⟨S.tabs, fun H1 e1 t1 p0 hp0 => ?_⟩
  have x1 : Ext X.K ρ H ρ H1 := Ext.ofN e1 t1
  have S1 := S.ofN e1 t1
  have x2 := x1.trans (Ext.new (K := X.K) (ρ := ρ) (o := .tup [.non, .non]) hp0)
  refine ⟨env, ρ, μ, er.ext x2, S1.new hp0, ?_⟩
  unfold hrdV at q
  cases eb : fb env μ with
  | no => rw [eb] at q; exact q
  | ok d μ' =>
    rw [eb] at q
    intro ρ' H' v x3 S3 r p hp
    exact q ρ' _ _ ((x2.trans x3).trans (Ext.new hp)) (S3.new hp) (Rep.newTup hp (.cons (by unfold Rep; rfl) (.cons r .nil)))
  | exc c d μ' =>
    rw [eb] at q
    by_cases hc : c ∈ es
    · replace q : Fin (Rep X.K) (fun c dx H' => W c dx σ H') X.K ρ H (.ok (.tup [.err c d, .non]) μ') Q := by
        have e : (if c ∈ es then Out.ok (D.tup [.err c d, .non]) μ' else Out.no) = Out.ok (D.tup [.err c d, .non]) μ' := if_pos hc
        rw [← e]; exact q
      intro ρ' H' dx v x3 S3 r hx
      refine ⟨hes c hc, fun a ha p hp => ?_⟩
      have x4 : Ext X.K ρ' H' ρ' (upd H' a (ErrO (.ref (He.ga X.K c)) (some dx) a)) := Ext.new ha
      refine q ρ' _ _ (((x2.trans x3).trans x4).trans (Ext.new hp)) ((S3.new ha).new hp) (Rep.newTup hp (.cons ?_ (.cons (by unfold Rep; rfl) .nil)))
      unfold Rep
      exact ⟨a, dx, v, rfl, upd_same, by rw [upd_ne (ne_of_none hx ha)]; exact hx, r.ext x4⟩
    · have e : (if c ∈ es then Out.ok (D.tup [.err c d, .non]) μ' else Out.no) = Out.no := if_neg hc
      replace q : Fin (Rep X.K) (fun c dx H' => W c dx σ H') X.K ρ H (Out.no) Q := by rw [← e]; exact q
      exact (show False from q).elim
/-- what is known of a def's own code -/
structure CodOk (gi : Gi) (k : Nat) (X : Cx) : Prop where
  room : Room (k + 2) X.A
  qual : X.env.qual = gi.cur ++ ".<locals>."
  code : (gi.cur, none) ∈ TF → X.env.code = .ref (He.cT X.K (gi.cur, none)).1 ∧ TabB X.base X.mg (He.cT X.K (gi.cur, none)).1 (He.cT X.K (gi.cur, none)).2
  uniq : (gi.cur, none) ∈ TF → ∀ p ∈ tabsOf X.K, p.1 = (He.cT X.K (gi.cur, none)).2 → p.2 = gi.cur ++ ".<locals>." ++ "<lambda>"
def noPar : Arguments := ⟨[], [], none, [], [], none, []⟩
theorem pe_hrdI {X : Cx} {W : WX} {es : List Str} {gi : Gi} {cl : Cl} {k : Nat} {fb : Dn} {body : Expr} {scope : Scope} {p lpos pos : Pos} (G : GOk gi cl k X) (C : CodOk gi k X) (hg : Gl X "_law_heard") (hh : gi.hrd = true) (hc : (gi.cur, none) ∈ TF) (hes : ∀ z ∈ es, z ∈ gi.ers) (L : LamS X.env.scope scope)
    (hbody : ∀ (A : Around) (outer : List Env) (s : Shared) (H : Hp) (E : XK) (f c' : Addr), A.guards = X.A.guards → Room k (A.deeper (lamEnv X scope s.heap.objs.size f c')) → PE (lamCx X A outer s H E scope f c') body (tI X.K (fun cls d _ H' => E cls d H') fb)) :
    PE X (.Call (.Name "_law_heard" p) [.Lambda noPar body scope lpos] [] pos) (tI X.K W (hrdV es fb)) := by
  obtain ⟨g, fd, pg, q, kk, j, sg, dV, kV, doc, pm, cdv, ct, oc, an, od, osl, hm, hk, ef, lk, hcg, hb, Sg, hl, hge, hme⟩ := G.hrd hh
  obtain ⟨hcode, TB⟩ := C.code hc
  refine pe_imp (pe_lam2 (T := tabsOf X.K) (TT := THeard X.K (He.ga X.K topE)) (a := "call") (k := k) (Ng := NH) hg hm hk ef lk hcg hb Sg rfl (.inl (hl "call" (by unfold NH; simp))) (heard_gives Sg.kind hl hge hme) TB hcode ?_ ?_ C.room L rfl (fun _ _ _ _ _ => rfl) hbody (by decide) (by decide) (by decide)) fun σ H Q h => hrd_reads (fun z hz => (G.ers z (hes z hz)).2.exm) h
  · rw [C.qual]
    exact List.mem_map.mpr ⟨_, hc, rfl⟩
  · intro p hp e
    rw [C.qual]
    exact C.uniq hc p hp e
end Rf


set_option Elab.async false
set_option linter.all false
set_option maxRecDepth 100000
set_option maxHeartbeats 2000000
/-! Rf, part H: the checker of expressions, and that it is right. -/
namespace Rf
open PySem PySem.Spec PyProof.Rows L2

def conHas (l : List (Str × D)) (x : Str) (d : D) : Bool := l.any fun p => decide (p.1 = x) && sameD p.2 d
theorem conHas_mem {l : List (Str × D)} {x : Str} {d : D} (h : conHas l x d = true) : (x, d) ∈ l := by
  obtain ⟨p, hp, e⟩ := List.any_eq_true.mp h
  rw [Bool.and_eq_true] at e
  have e1 : p.1 = x := of_decide_eq_true e.1
  have e2 := sameD_eq.1 _ _ e.2
  obtain ⟨a, b⟩ := p
  have e1 : a = x := e1
  have e2 : b = d := e2
  rw [← e1, ← e2]
  exact hp
/-- an index that is no slice -/
def plainB : Expr → Bool
  | .Slice _ _ _ _ => false
  | .Name _ _ => true
  | .Constant _ _ _ => true
  | .BinOp _ _ _ _ => true
  | .UnaryOp _ _ _ => true
  | .Subscript _ _ _ => true
  | .Call _ _ _ _ => true
  | .IfExp _ _ _ _ => true
  | .Attribute _ _ _ => true
  | _ => false
theorem plainB_ok {e : Expr} (h : plainB e = true) : PlainIx e := by
  cases e <;> first | exact fun _ _ => rfl | cases h
def starB : Expr → Bool
  | .Starred _ _ => true
  | _ => false
theorem star_of {e : Expr} (h : starB e = false) (es : List Expr) (env : Env) : starEach (e :: es) env = (false, eval e env) :: starEach es env := by
  cases e <;> first | rfl | cases h
/-- none of these is starred -/
def starsB : List Expr → Bool
  | [] => false
  | e :: es => starB e || starsB es
theorem stars_any {pos : Pos} : ∀ {es : List Expr} (env : Env), starsB es = false → (backTo pos (starEach es env)).any (·.1) = false
  | [], _, _ => rfl
  | e :: es, env, h => by
    unfold starsB at h
    rw [Bool.or_eq_false_iff] at h
    rw [star_of h.1]
    show ((false : Bool) || (backTo pos (starEach es env)).any (·.1)) = false
    rw [stars_any env h.2]
    rfl
def setB : Expr → Bool
  | .Set _ _ _ => true
  | _ => false
theorem noset {e : Expr} (h : setB e = false) (env : Env) : ∀ x, foldedSetIterable e env x = pure x := by
  intro x
  cases e <;> first | rfl | cases h
theorem nomarkB {e : Expr} (h : setB e = false) (op : CmpOp) : behindInMarks op e = false := by
  cases e <;> first | rfl | cases h
theorem nolastB {b c : Expr} (h : setB c = false) (o1 o2 : CmpOp) : lastMarks [o1, o2] [b, c] = false := by
  cases c <;> first | rfl | cases h
/-- an expression whose test is its value's truth -/
def valB : Expr → Bool
  | .BoolOp _ _ _ => false
  | .UnaryOp .Not _ _ => false
  | .IfExp _ _ _ _ => false
  | .Compare _ _ _ _ => false
  | _ => true
theorem valB_ok {e : Expr} (h : valB e = true) (env : Env) : ∀ whole, isTrue e env whole = (do let v ← whole; standAt e.pos; holding [v] (truthy v)) := by
  intro whole
  cases e with
  | UnaryOp op x p => cases op <;> first | rfl | cases h
  | BoolOp => cases h
  | IfExp => cases h
  | Compare => cases h
  | _ => rfl
def tupB : Expr → Bool
  | .Tuple _ _ _ => true
  | _ => false

mutual
def ckE (gi : Gi) (c : Ck) (p : Expr) : E → Bool
  | .var i => match p with
    | .Name x _ => decide (c.N[i]? = some x) && c.vis x && !(x == ("__debug__" : Str)) && !(x == ("__classdict__" : Str))
    | _ => false
  | .glo y d => match p with
    | .Name x _ => decide (x = y) && c.gl x && conHas gi.con x d && !(x == ("__debug__" : Str))
    | _ => false
  | .cst d => match p with
    | .Constant (.int i) _ _ => sameD d (.int i)
    | .Constant (.bool i) _ _ => sameD d (.bl i)
    | .Constant (.str i) _ _ => sameD d (.str i)
    | .Constant .none _ _ => sameD d .non
    | _ => false
  | .tup es => match p with
    | .Tuple ps _ _ => ckEs gi c ps es
    | _ => false
  | .lst es => match p with
    | .List ps _ => ckEs gi c ps es
    | _ => false
  | .tupS fs => match p with
    | .Tuple ps _ _ => ckF gi c ps fs
    | _ => false
  | .lstS fs => match p with
    | .List ps _ => ckF gi c ps fs
    | _ => false
  | .bin o a b => match p with
    | .BinOp l op r _ => decide (op = o) && okOp o && ckE gi c l a && ckE gi c r b
    | _ => false
  | .neg a => match p with
    | .UnaryOp .USub x _ => ckE gi c x a
    | _ => false
  | .not a => match p with
    | .UnaryOp .Not x _ => ckE gi c x a
    | _ => false
  | .cmp o a b => match p with
    | .Compare l [op] [r] _ => decide (op = o) && okCmp o && ckE gi c l a && ckE gi c r b && !setB r
    | _ => false
  | .isN ng a => match p with
    | .Compare l [op] [.Constant .none _ _] _ => decide (op = if ng then .IsNot else .Is) && ckE gi c l a
    | _ => false
  | .chn o1 o2 a b d => match p with
    | .Compare l [p1, p2] [m, r] _ => decide (p1 = o1) && decide (p2 = o2) && okCmp o1 && okCmp o2 && ckE gi c l a && ckE gi c m b && ckE gi c r d && !setB r
    | _ => false
  | .and a b => match p with
    | .BoolOp .And (x :: y :: r) q => ckE gi c x a && (match r with
      | [] => ckE gi c y b
      | _ => ckE gi c (.BoolOp .And (y :: r) q) b)
    | _ => false
  | .or a b => match p with
    | .BoolOp .Or (x :: y :: r) q => ckE gi c x a && (match r with
      | [] => ckE gi c y b
      | _ => ckE gi c (.BoolOp .Or (y :: r) q) b)
    | _ => false
  | .ife t a b => match p with
    | .IfExp x y z _ => ckE gi c x t && ckE gi c y a && ckE gi c z b
    | _ => false
  | .idx a i => match p with
    | .Subscript x y _ => ckE gi c x a && ckE gi c y i && plainB y
    | _ => false
  | .slc a lo hi => match p with
    | .Subscript x (.Slice l h none _) _ => ckE gi c x a && ckO gi c l lo && ckO gi c h hi
    | _ => false
  | .cal f es => match p with
    | .Call (.Name x _) (e :: ps) [] _ => decide (x = f) && c.gl x && decide (x ∈ gi.fns) && !(x == ("__debug__" : Str)) && ckEs gi c (e :: ps) es
    | _ => false
  | .blt b es => match p with
    | .Call (.Name x _) (e :: ps) [] _ => decide (x = b.name) && c.gl x && decide (x ∈ gi.fre) && ckEs gi c (e :: ps) es
    | _ => false
  | .isi a t => match p with
    | .Call (.Name x _) [e, .Name y _] [] _ => decide (x = ("isinstance" : Str)) && c.gl x && decide (x ∈ gi.fre) && decide (y = t.pyName) && c.gl y && decide (y ∈ gi.fre) && ckE gi c e a && !starB e
    | _ => false
  | .lrg es => match p with
    | .Call (.Name x _) [.Call (.Name y _) (e :: ps) [] _] [] _ => decide (x = ("list" : Str)) && c.gl x && decide (x ∈ gi.fre) && decide (y = ("range" : Str)) && c.gl y && decide (y ∈ gi.fre) && ckEs gi c (e :: ps) es && decide (ps.length ≤ 1)
    | _ => false
  | .rpr a => match p with
    | .Call (.Name x _) [l] [] _ => decide (x = ("repr" : Str)) && c.gl x && decide (x ∈ gi.fre) && ckE gi c l a && !starB l
    | _ => false
  | .frz a => ckE gi c p a && valB p
  | .isE es a x all => match p with
    | .Call (.Name y _) [e, .Name z _] [] _ => decide (y = ("isinstance" : Str)) && c.gl y && decide (y ∈ gi.fre) && decide (z = x) && c.gl z && decide (z ∈ gi.ers) && !(z == ("__debug__" : Str)) && ckE gi c e a && !starB e && decide (all = decide (x = topE)) && decide (∀ w ∈ es, w ∈ gi.ers)
    | _ => false
  | .fld es a => match p with
    | .Attribute (.Name y q) f _ => decide (f = ("value" : Str)) && ckE gi c (.Name y q) a && decide (∀ w ∈ es, w ∈ gi.ers)
    | _ => false
  | .isB ng k a => match p with
    | .Compare l [op] [.Constant (.bool b) _ _] _ => decide (op = if ng then .IsNot else .Is) && decide (b = k) && ckE gi c l a
    | _ => false
  | .rev a => match p with
    | .Subscript x (.Slice none none (some (.UnaryOp .USub (.Constant (.int i) _ _) _)) _) _ => decide (i = 1) && ckE gi c x a
    | _ => false
  | .hrd es a => match p with
    | .Call (.Name y _) [.Lambda ⟨[], [], none, [], [], none, []⟩ body scope _] [] _ => decide (y = ("_law_heard" : Str)) && c.gl y && gi.hrd && c.isDef && LamX.lamSB c.sc scope && decide ((gi.cur, none) ∈ TF) && decide (∀ w ∈ es, w ∈ gi.ers) && ckE gi ⟨c.N, scope, false⟩ body a
    | _ => false
  | .mls es => match p with
    | .List ps _ => ckEs gi c ps es
    | _ => false
  | .lcm t s cd e own => match p with
    | .ListComp elt [⟨tg, it, ifs, k⟩] scope _ => decide (k = 0) && L2.blkC c.N c.sc scope own && ckT ⟨c.N, relS scope c.sc, false⟩ tg t && decide (∀ j ∈ t.slots, j ∈ own.map (·.2)) && ckI gi c it (tupB tg) s && !setB it &&
        ckIfs gi ⟨c.N, relS scope c.sc, false⟩ ifs cd && ckE gi ⟨c.N, relS scope c.sc, false⟩ elt e
    | _ => false
  | .mlc t s cd e own => match p with
    | .ListComp elt [⟨tg, it, ifs, k⟩] scope _ => decide (k = 0) && L2.blkC c.N c.sc scope own && ckT ⟨c.N, relS scope c.sc, false⟩ tg t && decide (∀ j ∈ t.slots, j ∈ own.map (·.2)) && ckI gi c it (tupB tg) s && !setB it &&
        ckIfs gi ⟨c.N, relS scope c.sc, false⟩ ifs cd && ckE gi ⟨c.N, relS scope c.sc, false⟩ elt e
    | _ => false
def ckEs (gi : Gi) (c : Ck) (ps : List Expr) : Es → Bool
  | .nil => match ps with
    | [] => true
    | _ => false
  | .cons e es => match ps with
    | p :: ps => ckE gi c p e && !starB p && ckEs gi c ps es
    | _ => false
def ckF (gi : Gi) (c : Ck) (ps : List Expr) : Fs → Bool
  | .nil => match ps with
    | [] => true
    | _ => false
  | .cons e fs => match ps with
    | p :: ps => ckE gi c p e && !starB p && ckF gi c ps fs
    | _ => false
  | .star e fs => match ps with
    | .Starred p _ :: ps => ckE gi c p e && ckF gi c ps fs
    | _ => false
def ckO (gi : Gi) (c : Ck) (p : Option Expr) : Eo → Bool
  | .none => match p with
    | none => true
    | _ => false
  | .some e => match p with
    | some p => ckE gi c p e
    | _ => false
def ckIfs (gi : Gi) (c : Ck) (ps : List Expr) : Eo → Bool
  | .none => match ps with
    | [] => true
    | _ => false
  | .some e => match ps with
    | [p] => ckE gi c p e
    | _ => false
def ckI (gi : Gi) (c : Ck) (p : Expr) (tu : Bool) : Src → Bool
  | .seq e => ckE gi c p e
  | .rng1 a => match p with
    | .Call (.Name y _) [e] [] _ => decide (y = ("range" : Str)) && c.gl y && decide (y ∈ gi.fre) && ckE gi c e a && !starB e
    | _ => false
  | .rng2 a b => match p with
    | .Call (.Name y _) [e, f] [] _ => decide (y = ("range" : Str)) && c.gl y && decide (y ∈ gi.fre) && ckE gi c e a && ckE gi c f b && !starB e && !starB f
    | _ => false
  | .zip a b => match p with
    | .Call (.Name y _) [e, f] [] _ => decide (y = ("zip" : Str)) && c.gl y && decide (y ∈ gi.fre) && ckE gi c e a && ckE gi c f b && tu && !starB e && !starB f
    | _ => false
  | .enu a => match p with
    | .Call (.Name y _) [e] [] _ => decide (y = ("enumerate" : Str)) && c.gl y && decide (y ∈ gi.fre) && ckE gi c e a && tu && !starB e
    | _ => false
end

section
variable {X : Cx}
/-- a list, a tuple walked -/
theorem pi_seqI {tg l : Expr} {W : WX} {f : Dn} (hl : PE X l (tI X.K W f)) : PI X tg l (tG (fun ρ H w J => WkR X.K ρ H J 0 w) X.K W (seqV f)) := by
  refine ⟨fun pins s σ H R I ⟨env, ρ, μ, er, S, q⟩ => ?_⟩
  refine thn (hl.run pins s σ H _ I (go (R := Rep X.K) er S q)) fun v s1 ⟨x, H1, I1, r1, ρ1, μ1, d, x1, S1, rd, q1⟩ => ?_
  have tupW : ∀ {a : Addr} {vs : List V}, x = .ref a → SqT X.K H1 a vs → R (Itt X.K a) H1 → wpAny (model X.prog X.w) X.A (pyIter v) (PIE X pins σ tg R) X.xe s1 := by
    intro a vs e hq qR
    subst e
    cases r1
    obtain ⟨its, rv, pt, hz⟩ := I1.tuple hq
    refine wpAny_pyIter_tuple (show s1.heap.IsTuple a its.toArray from pt) ?_
    refine ⟨s1.heap.objs.size, [s1.heap.objs.size], _, _, H1, rfl, ?_, turn_tuple a _,
      ⟨_, Heap.get?_push_size _ rfl, rfl, rfl⟩, fun b hb => ?_, qR⟩
    · exact I1.kept (t' := s1.toks) fun _ _ z => Heap.get?_push_of_some _ z
    rw [List.mem_singleton.mp hb]
    exact I1.fpOk (Nat.le_refl _) (I1.hok.fresh (Nat.le_refl _))
  have lstW : ∀ {a : Addr} {vs : List V}, x = .ref a → SqL X.K H1 a vs → R (Itl X.K a) H1 → wpAny (model X.prog X.w) X.A (pyIter v) (PIE X pins σ tg R) X.xe s1 := by
    intro a vs e hq qR
    subst e
    cases r1
    obtain ⟨its, rv, pl, hz⟩ := I1.list hq
    refine wpAny_pyIter_list pl.isList ?_
    refine ⟨s1.heap.objs.size, [s1.heap.objs.size], _, _, H1, rfl, ?_, turn_list a _,
      ⟨_, Heap.get?_push_size _ rfl, rfl, rfl⟩, fun b hb => ?_, qR⟩
    · exact I1.kept (t' := s1.toks) fun _ _ z => Heap.get?_push_of_some _ z
    rw [List.mem_singleton.mp hb]
    exact I1.fpOk (Nat.le_refl _) (I1.hok.fresh (Nat.le_refl _))
  cases d with
  | tup ds =>
    obtain ⟨a, vs, e, t, r⟩ := rep_tup rd
    exact tupW e t (Fin.now (R := fun ρ H w J => WkR X.K ρ H J 0 w) q1 S1 (.tup t r))
  | rol ds =>
    obtain ⟨a, vs, e, t, r⟩ := rep_rol rd
    exact lstW e t.sq (Fin.now (R := fun ρ H w J => WkR X.K ρ H J 0 w) q1 S1 (.rol t r))
  | obj n =>
    obtain ⟨a, e, ha⟩ := rep_obj rd
    unfold seqI at q1
    dsimp only at q1
    cases g : seqOf μ1 (.obj n) with
    | none => rw [g] at q1; exact (show False from q1).elim
    | some ds =>
      rw [g] at q1
      obtain ⟨vs, h1, h2⟩ := at_rep S1 ha g
      exact lstW e h1 (Fin.now (R := fun ρ H w J => WkR X.K ρ H J 0 w) q1 S1 (.lst ha))
  | _ => exact (show False from q1).elim
/-- a list by a comprehension -/
theorem pe_lcmI {W : WX} {elt tg it : Expr} {ifs : List Expr} {scope : Scope} {own : List (Str × Nat)} {pos : Pos} {wf : Nat} {t : Tg} {s : Di} {cd : Dt} {e : Dn} (hc : X.calm = true) (hN : X.N.Nodup) (ok : BlkOk X.N X.env.scope scope own)
    (hi : PI X tg it (tG (fun ρ H w J => WkR X.K ρ H J 0 w) X.K W s)) (hsl : ∀ j ∈ t.slots, j ∈ own.map (·.2))
    (hg : ∀ (s : Shared) (H : Hp) (C : Addr) (cl : List (Str × Addr)) (fp : List Addr), PG (X.blk s H scope (compEnvC scope cl C X.env) fp) tg (gI X.K t))
    (ht : ∀ (s : Shared) (H : Hp) (C : Addr) (cl : List (Str × Addr)) (fp : List Addr), PTs (X.blk s H scope (compEnvC scope cl C X.env) fp) ifs (tIb X.K (fun _ _ _ _ => False) cd))
    (he : ∀ (s : Shared) (H : Hp) (C : Addr) (cl : List (Str × Addr)) (fp : List Addr), PE (X.blk s H scope (compEnvC scope cl C X.env) fp) elt (tI X.K (fun _ _ _ _ => False) e)) (hs : ∀ x, foldedSetIterable it X.env x = pure x) :
    PE X (.ListComp elt [⟨tg, it, ifs, 0⟩] scope pos) (tI X.K W (lcmV wf t s cd e (own.map (·.2)))) :=
  pe_imp (pe_lk (pe_lc hc hN hi ok hg ht he hs)) fun σ H Q q => lc_reads hsl lc_newR q
/-- a list by a comprehension -/
theorem pe_mlcI {W : WX} {elt tg it : Expr} {ifs : List Expr} {scope : Scope} {own : List (Str × Nat)} {pos : Pos} {wf : Nat} {t : Tg} {s : Di} {cd : Dt} {e : Dn} (hc : X.calm = true) (hN : X.N.Nodup) (ok : BlkOk X.N X.env.scope scope own)
    (hi : PI X tg it (tG (fun ρ H w J => WkR X.K ρ H J 0 w) X.K W s)) (hsl : ∀ j ∈ t.slots, j ∈ own.map (·.2))
    (hg : ∀ (s : Shared) (H : Hp) (C : Addr) (cl : List (Str × Addr)) (fp : List Addr), PG (X.blk s H scope (compEnvC scope cl C X.env) fp) tg (gI X.K t))
    (ht : ∀ (s : Shared) (H : Hp) (C : Addr) (cl : List (Str × Addr)) (fp : List Addr), PTs (X.blk s H scope (compEnvC scope cl C X.env) fp) ifs (tIb X.K (fun _ _ _ _ => False) cd))
    (he : ∀ (s : Shared) (H : Hp) (C : Addr) (cl : List (Str × Addr)) (fp : List Addr), PE (X.blk s H scope (compEnvC scope cl C X.env) fp) elt (tI X.K (fun _ _ _ _ => False) e)) (hs : ∀ x, foldedSetIterable it X.env x = pure x) :
    PE X (.ListComp elt [⟨tg, it, ifs, 0⟩] scope pos) (tI X.K W (mlcV wf t s cd e (own.map (·.2)))) :=
  pe_imp (pe_lc hc hN hi ok hg ht he hs) fun σ H Q q => lc_reads hsl lc_newL q
/-- list(range(..)) -/
theorem pe_lrgI {W : WX} {a : Expr} {ps : List Expr} {p1 p2 q1 q2 : Pos} {fs : Ds} {gi : Gi} (hc : X.calm = true) (hg : Gl X "list") (hm : X.mg "list" = none) (hg2 : Gl X "range") (hm2 : X.mg "range" = none) (ha : PA X (a :: ps) (tIa X.K W fs)) (hl : ps.length ≤ 1)
    (sa : ∀ env, starEach (a :: ps) env = (false, eval a env) :: starEach ps env) (sb : starsB ps = false) :
    PE X (.Call (.Name "list" p1) [.Call (.Name "range" p2) (a :: ps) [] q1] [] q2) (tI X.K W (lrgV fs)) := by
  have ranged : PRg X (.Call (.Name "range" p2) (a :: ps) [] q1) (fun σ H Q => tIa X.K W fs σ H fun vs H1 => (∃ n, vs = [.int n] ∧ Q 0 n H1) ∨ ∃ i j, vs = [.int i, .int j] ∧ Q i j H1) := by
    intro pins s σ H Q I h
    refine Call_ (ld_blt I hg2 hm2 boot_range (PyProof.Rows.callWith_type1 (thn (ha.run _ pins s σ H _ I h) fun us s1 ⟨vs, H1, I1, rv, qq⟩ => ?_) (sa X.env) (stars_any X.env sb)))
    rcases qq with ⟨n, rfl, q⟩ | ⟨i, j, rfl, q⟩
    · obtain ⟨u, rfl, t, rfl⟩ := vals1 rv
      exact call_range_1 ⟨_, 0, n, _, _, _, H1, rfl, IsRange.new .., I1.kept fun _ _ e => Heap.get?_push_of_some _ e, q⟩
    · obtain ⟨u, u', rfl, ⟨t, rfl⟩, t', rfl⟩ := vals2 rv
      exact call_range_2 ⟨_, i, j, _, _, _, H1, rfl, IsRange.new .., I1.kept fun _ _ e => Heap.get?_push_of_some _ e, q⟩
  refine pe_imp (pe_lk (pe_listRg hc hg hm ranged rfl)) fun σ H Q ⟨env, ρ, μ, er, S, q⟩ => ?_
  refine (go (R := Reps X.K) er S q).mono fun vs H1 ⟨ρ1, μ1, ds, x1, S1, r1, q1⟩ => ?_
  have rgR : ∀ (lo : Int) (n : Nat), Reps X.K ρ1 H1 ((List.range n).map fun i => D.int (lo + (i : Nat))) ((List.range n).map fun i => V.int (lo + (i : Nat))) := by
    intro lo n
    generalize List.range n = l
    induction l with
    | nil => exact .nil
    | cons i l ih => exact .cons mk_int ih
  have lim : ∀ {a b : Int} {n : Nat}, n = (b - a).toNat → n ≤ 100000 → (b - a).toNat ≤ 2 ^ 24 := fun {a b n} e h => by omega
  unfold rngL at q1
  split at q1
  · rename_i lo n er1
    by_cases hn : n ≤ 100000
    · rw [if_pos hn] at q1
      unfold rngD at er1
      split at er1
      · rename_i j
        split at er1
        · rename_i hb
          rw [Bool.and_eq_true] at hb
          have b1 := of_decide_eq_true hb.1
          have b2 := of_decide_eq_true hb.2
          cases er1
          obtain ⟨v, rfl, hv⟩ := reps1 r1
          refine .inl ⟨j, by rw [rep_int hv], ⟨by decide, by decide, b1, b2, lim rfl (by omega)⟩, fun p hp => ?_⟩
          have e : rgV 0 j = (List.range j.toNat).map fun i => V.int (0 + (i : Nat)) := by unfold rgV; rw [Int.sub_zero]
          rw [e]
          exact fin_newR S1 hp (rgR 0 _) q1
        · cases er1
      · rename_i i j
        split at er1
        · rename_i hb
          rw [Bool.and_eq_true, Bool.and_eq_true, Bool.and_eq_true] at hb
          have b1 := of_decide_eq_true hb.1.1
          have b2 := of_decide_eq_true hb.1.2
          have b3 := of_decide_eq_true hb.2.1
          have b4 := of_decide_eq_true hb.2.2
          cases er1
          obtain ⟨v, u, rfl, hv, hu⟩ := reps2 r1
          refine .inr ⟨_, j, by rw [rep_int hv, rep_int hu], ⟨b1, b2, b3, b4, lim rfl hn⟩, fun p hp => ?_⟩
          exact fin_newR S1 hp (rgR _ _) q1
        · cases er1
      · cases er1
    · rw [if_neg hn] at q1; exact (show False from q1).elim
  · exact (show False from q1).elim
def SE (X : Cx) (W : WX) (p : Expr) (v : Dn × Dt) : Prop := PE X p (tI X.K W v.1) ∧ PT X p (tIb X.K W v.2) ∧ ∀ op vs q, p = .BoolOp op vs q → PW X p (tIb X.K W v.2)
theorem SE.mk {W : WX} {p : Expr} {v : Dn} (h : PE X p (tI X.K W v)) (hv : valB p = true) : SE X W p (Rf.mk v) :=
  ⟨h, pt_mkI h (valB_ok hv X.env), fun op vs q e => by subst e; cases hv⟩
theorem SE.mk2 {W : WX} {p : Expr} {v : Dn × Dt} (h : PE X p (tI X.K W v.1)) (ht : PT X p (tIb X.K W v.2)) (hv : ∀ op vs q, p ≠ .BoolOp op vs q) : SE X W p v := ⟨h, ht, fun op vs q e => absurd e (hv op vs q)⟩
theorem GOk.blk {gi : Gi} {cl : Cl} {k : Nat} (g : GOk gi cl k X) (s : Shared) (H : Hp) (scope : Scope) (env : Env) (fp : List Addr) : GOk gi cl k (X.blk s H scope env fp) := ⟨g.fns, g.con, g.fre, g.room, g.guards, g.ers, g.kit, g.sup, g.hrd⟩
theorem takesF (s : Shared) (H : Hp) (scope : Scope) (env : Env) (fp : List Addr) : Takes (X.blk s H scope env fp) (fun _ _ _ _ => False) := by
  rintro u s' ⟨a, B, sI, pins, σ, H, cls, d, _, _, _, _, _, _, _, _, z⟩
  exact z
theorem CkOk.blk {c : Ck} {scope : Scope} (g : CkOk c X) (s : Shared) (H : Hp) (C : Addr) (cl : List (Str × Addr)) (fp : List Addr) : CkOk ⟨c.N, relS scope c.sc, false⟩ (X.blk s H scope (compEnvC scope cl C X.env) fp) :=
  ⟨g.N, by rw [← g.sc]; rfl, g.nd, g.calm, fun z => by cases z⟩
theorem GOk.units {gi : Gi} {cl : Cl} {k : Nat} (g : GOk gi cl k X) : X.A.units + 64 < cLine := g.room.units
theorem Ck.vis_ok {c : Ck} {x : Str} (g : CkOk c X) (h : c.vis x = true) : Vis X.env.scope x := by
  unfold Ck.vis at h
  rw [Bool.or_eq_true, Bool.or_eq_true] at h
  rw [g.sc]
  rcases h with (h | h) | h
  · exact .inl (of_decide_eq_true h)
  · exact .inr (.inl (of_decide_eq_true h))
  · exact .inr (.inr (of_decide_eq_true h))
theorem Ck.gl_ok {c : Ck} {x : Str} (g : CkOk c X) (h : c.gl x = true) : Gl X x := by
  unfold Ck.gl at h
  show X.env.scope.names.lookup x = _
  rw [g.sc]
  exact of_decide_eq_true h
theorem not_true {b : Bool} (h : (!b) = true) : b = false := by cases b; rfl; cases h
end

/-! ### the checker is right -/
section
variable {gi : Gi} {cl : Cl} {k : Nat}
theorem bq {a b : Bool} (h : (a && b) = true) : a = true ∧ b = true := Bool.and_eq_true_iff.mp h
theorem ckEs_stars {gi : Gi} {c : Ck} : ∀ {ps : List Expr} {es : Es}, ckEs gi c ps es = true → starsB ps = false
  | [], _, _ => rfl
  | p :: ps, .nil, h => by unfold ckEs at h; cases h
  | p :: ps, .cons e es, h => by
    unfold ckEs at h
    obtain ⟨h1, h2⟩ := bq h
    obtain ⟨h3, h4⟩ := bq h1
    unfold starsB
    rw [not_true h4, ckEs_stars h2]
    rfl
theorem starsB_head {p : Expr} {ps : List Expr} (h : starsB (p :: ps) = false) : starB p = false ∧ starsB ps = false := by
  unfold starsB at h
  exact Bool.or_eq_false_iff.mp h
/-- the walk's own readings -/
theorem pi_imp {X : Cx} {tg it : Expr} {t t' : TI} (h : PI X tg it t) (f : ∀ σ H Q, t' σ H Q → t σ H Q) : PI X tg it t' := ⟨fun pins s σ H R I q => h.run pins s σ H R I (f σ H R q)⟩
theorem rng_one {K : PySem.W.Frag} {W' : XW} {ρ : List Addr} {H : Hp} {μ : Sto} {x : D} {R : It → Hp → Prop} (S : Sim K ρ H μ) (h : Fin (fun ρ H w J => WkR K ρ H J 0 w) W' K ρ H (ofOpt μ (rngD [x])) R) : ∃ j, x = .int j ∧ -(2 ^ 62) ≤ j ∧ j < 2 ^ 62 ∧ R (Itr 0 j.toNat) H := by
  obtain ⟨w, e, h2⟩ := fin_ofOpt h
  cases x with
  | int j =>
    have e' : (if decide (-(2 ^ 62) ≤ j) && decide (j < 2 ^ 62) then some (Wk.rng 0 j.toNat) else none) = some w := e
    split at e'
    · rename_i hb
      cases e'
      obtain ⟨b1, b2⟩ := bq hb
      refine ⟨j, rfl, of_decide_eq_true b1, of_decide_eq_true b2, ?_⟩
      have z := WkR.rng (K := K) (ρ := ρ) (H := H) (lo := 0) (n := j.toNat) (i := 0) (Nat.zero_le _)
      have e2 : (0 : Int) + ((0 : Nat) : Int) = 0 := by decide
      rw [e2, Nat.sub_zero] at z
      exact Fin.now (R := fun ρ H w J => WkR K ρ H J 0 w) h2 S z
    · cases e'
  | _ => cases e
theorem rng_two {K : PySem.W.Frag} {W' : XW} {ρ : List Addr} {H : Hp} {μ : Sto} {x y : D} {R : It → Hp → Prop} (S : Sim K ρ H μ) (h : Fin (fun ρ H w J => WkR K ρ H J 0 w) W' K ρ H (ofOpt μ (rngD [x, y])) R) :
    ∃ i j, x = .int i ∧ y = .int j ∧ (-(2 ^ 62) ≤ i ∧ i < 2 ^ 62 ∧ -(2 ^ 62) ≤ j ∧ j < 2 ^ 62) ∧ R (Itr i (j - i).toNat) H := by
  obtain ⟨w, e, h2⟩ := fin_ofOpt h
  cases x with
  | int i =>
    cases y with
    | int j =>
      have e' : (if decide (-(2 ^ 62) ≤ i) && decide (i < 2 ^ 62) && (decide (-(2 ^ 62) ≤ j) && decide (j < 2 ^ 62)) then some (Wk.rng i (j - i).toNat) else none) = some w := e
      split at e'
      · rename_i hb
        cases e'
        obtain ⟨b12, b34⟩ := bq hb
        obtain ⟨b1, b2⟩ := bq b12
        obtain ⟨b3, b4⟩ := bq b34
        refine ⟨i, j, rfl, rfl, ⟨of_decide_eq_true b1, of_decide_eq_true b2, of_decide_eq_true b3, of_decide_eq_true b4⟩, ?_⟩
        have z := WkR.rng (K := K) (ρ := ρ) (H := H) (lo := i) (n := (j - i).toNat) (i := 0) (Nat.zero_le _)
        have e2 : i + ((0 : Nat) : Int) = i := by simp
        rw [e2, Nat.sub_zero] at z
        exact Fin.now (R := fun ρ H w J => WkR K ρ H J 0 w) h2 S z
      · cases e'
    | _ => cases e
  | _ => cases y <;> cases e
theorem pi_rng1I {X : Cx} {W : WX} {tg a : Expr} {p2 q1 : Pos} {fa : Dn} (hg2 : Gl X "range") (hm2 : X.mg "range" = none) (ha : PE X a (tI X.K W fa)) (h1 : starB a = false) :
    PI X tg (.Call (.Name "range" p2) [a] [] q1) (tG (fun ρ H w J => WkR X.K ρ H J 0 w) X.K W (rng1V fa)) :=
  pi_imp (pi_range1 hg2 hm2 (pa_cons ha pa_nil (star_of h1 _ _)) (star_of h1 _ _)) fun σ H R ⟨env, ρ, μ, er, S, q⟩ => (go (R := Rep X.K) er S q).mono fun x H1 ⟨ρ1, μ1, d, x1, S1, r1, q1⟩ => by
    obtain ⟨j, rfl, b1, b2, q2⟩ := rng_one S1 q1
    exact ⟨j, by rw [rep_int r1], b1, b2, q2⟩
theorem pi_rng2I {X : Cx} {W : WX} {tg a b : Expr} {p2 q1 : Pos} {fa fb : Dn} (hg2 : Gl X "range") (hm2 : X.mg "range" = none) (ha : PE X a (tI X.K W fa)) (hb : PE X b (tI X.K W fb)) (h1 : starB a = false) (h2 : starB b = false) :
    PI X tg (.Call (.Name "range" p2) [a, b] [] q1) (tG (fun ρ H w J => WkR X.K ρ H J 0 w) X.K W (rng2V fa fb)) :=
  pi_imp (pi_range2 hg2 hm2 (pa_cons ha (pa_cons hb pa_nil (star_of h2 _ _)) (star_of h1 _ _)) (by rw [star_of h1, star_of h2]; rfl) (star_of h2 _ _)) fun σ H R ⟨env, ρ, μ, er, S, q⟩ =>
    (go (R := Rep X.K) er S q).mono fun x H1 ⟨ρ1, μ1, d, x1, S1, r1, q1⟩ => (go (R := Rep X.K) (er.ext x1) S1 q1).mono fun y H2 ⟨ρ2, μ2, e, x2, S2, r2, q2⟩ => by
      obtain ⟨i, j, rfl, rfl, b1, q3⟩ := rng_two S2 q2
      exact ⟨i, j, by rw [rep_int r1, rep_int r2], b1, q3⟩
theorem pi_zipI {X : Cx} {W : WX} {elts : List Expr} {kk : Nat} {tpos : Pos} {a b : Expr} {p2 q1 : Pos} {fa fb : Dn} (hg2 : Gl X "zip") (hm2 : X.mg "zip" = none) (ha : PE X a (tI X.K W fa)) (hb : PE X b (tI X.K W fb)) (h1 : starB a = false) (h2 : starB b = false) :
    PI X (.Tuple elts kk tpos) (.Call (.Name "zip" p2) [a, b] [] q1) (tG (fun ρ H w J => WkR X.K ρ H J 0 w) X.K W (zipV fa fb)) :=
  pi_imp (RZ.pi_zipA hg2 hm2 (pa_cons ha (pa_cons hb pa_nil (star_of h2 _ _)) (star_of h1 _ _)) (star_of h1 _ _) (stars_any X.env (by unfold starsB; rw [h2]; rfl))) fun σ H R ⟨env, ρ, μ, er, S, q⟩ =>
    (go (R := Rep X.K) er S q).mono fun x H1 ⟨ρ1, μ1, d, x1, S1, r1, q1⟩ => (go (R := Rep X.K) (er.ext x1) S1 q1).mono fun y H2 ⟨ρ2, μ2, e, x2, S2, r2, q2⟩ => by
      have r1' := r1.ext x2
      unfold zipI at q2
      split at q2
      · rename_i ds es
        obtain ⟨a1, vs, rfl, t1, s1⟩ := rep_tup r1'
        obtain ⟨a2, us, rfl, t2, s2⟩ := rep_tup r2
        exact ⟨a1, a2, vs, us, rfl, .inr ⟨t1, t2, Fin.now (R := fun ρ H w J => WkR X.K ρ H J 0 w) q2 S2 (.zipT t1 t2 s1 s2)⟩⟩
      · rename_i ds es
        obtain ⟨a1, vs, rfl, t1, s1⟩ := rep_rol r1'
        obtain ⟨a2, us, rfl, t2, s2⟩ := rep_rol r2
        exact ⟨a1, a2, vs, us, rfl, .inl ⟨t1.sq, t2.sq, Fin.now (R := fun ρ H w J => WkR X.K ρ H J 0 w) q2 S2 (.zipR t1 t2 s1 s2)⟩⟩
      · rename_i n m
        obtain ⟨a1, rfl, e1⟩ := rep_obj r1'
        obtain ⟨a2, rfl, e2⟩ := rep_obj r2
        split at q2
        · rename_i g1 g2
          obtain ⟨vs, h3, _⟩ := at_rep S2 e1 g1
          obtain ⟨us, h4, _⟩ := at_rep S2 e2 g2
          exact ⟨a1, a2, vs, us, rfl, .inl ⟨h3, h4, Fin.now (R := fun ρ H w J => WkR X.K ρ H J 0 w) q2 S2 (.zip e1 e2)⟩⟩
        · exact (show False from q2).elim
      · exact (show False from q2).elim
theorem pi_enuI {X : Cx} {W : WX} {elts : List Expr} {kk : Nat} {tpos : Pos} {a : Expr} {p2 q1 : Pos} {fa : Dn} (hg2 : Gl X "enumerate") (hm2 : X.mg "enumerate" = none) (ha : PE X a (tI X.K W fa)) (h1 : starB a = false) :
    PI X (.Tuple elts kk tpos) (.Call (.Name "enumerate" p2) [a] [] q1) (tG (fun ρ H w J => WkR X.K ρ H J 0 w) X.K W (enuV fa)) :=
  pi_imp (pi_enum hg2 hm2 (pa_cons ha pa_nil (star_of h1 _ _)) (star_of h1 _ _)) fun σ H R ⟨env, ρ, μ, er, S, q⟩ =>
    (go (R := Rep X.K) er S q).mono fun x H1 ⟨ρ1, μ1, d, x1, S1, r1, q1⟩ => by
      unfold enuI at q1
      split at q1
      · rename_i ds
        obtain ⟨a1, vs, rfl, t1, s1⟩ := rep_rol r1
        exact ⟨a1, vs, rfl, t1.sq, Fin.now (R := fun ρ H w J => WkR X.K ρ H J 0 w) q1 S1 (.enuR t1 s1)⟩
      · rename_i n
        obtain ⟨a1, rfl, e1⟩ := rep_obj r1
        split at q1
        · rename_i g1
          obtain ⟨vs, h3, _⟩ := at_rep S1 e1 g1
          exact ⟨a1, vs, rfl, h3, Fin.now (R := fun ρ H w J => WkR X.K ρ H J 0 w) q1 S1 (.enu e1)⟩
        · exact (show False from q1).elim
      · exact (show False from q1).elim
/-- what stands around a piece of code -/
structure Ar (gi : Gi) (cl : Cl) (k : Nat) (c : Ck) (X : Cx) (W : WX) : Prop where
  ck : CkOk c X
  gok : GOk gi cl k X
  tk : Takes X W
  cod : c.isDef = true → CodOk gi k X
theorem SE.and1 {X : Cx} {W : WX} {y : Expr} {q : Pos} {v : Dn × Dt} (h : SE X W y v) : PE X (.BoolOp .And [y] q) (tI X.K W v.1) ∧ PW X (.BoolOp .And [y] q) (tIb X.K W v.2) := ⟨pe_one h.1, pw_and1 h.2.1⟩
theorem SE.or1 {X : Cx} {W : WX} {y : Expr} {q : Pos} {v : Dn × Dt} (h : SE X W y v) : PE X (.BoolOp .Or [y] q) (tI X.K W v.1) ∧ PW X (.BoolOp .Or [y] q) (tIb X.K W v.2) := ⟨pe_one h.1, pw_or1 h.2.1⟩
mutual
theorem sE : ∀ (e : E) (c : Ck) (p : Expr), ckE gi c p e = true → ∀ (X : Cx) (W : WX), Ar gi cl k c X W → SE X W p (den cl e)
  | .var i, c, p, h, X, W, A => by
    unfold ckE at h
    split at h
    · rename_i x q
      obtain ⟨h, h4⟩ := bq h
      obtain ⟨h, h3⟩ := bq h
      obtain ⟨h1, h2⟩ := bq h
      unfold den
      exact .mk (pe_varI (by rw [A.ck.N]; exact of_decide_eq_true h1) (Ck.vis_ok A.ck h2) (not_true h3) (not_true h4)) rfl
    · cases h
  | .glo y d, c, p, h, X, W, A => by
    unfold ckE at h
    split at h
    · rename_i x q
      obtain ⟨h, h4⟩ := bq h
      obtain ⟨h, h3⟩ := bq h
      obtain ⟨h1, h2⟩ := bq h
      obtain ⟨u, v, m1, m2, m3⟩ := A.gok.con _ (conHas_mem h3)
      unfold den
      exact .mk (pe_cstI (pe_glob (Ck.gl_ok A.ck h2) m1 m2 (not_true h4)) m3) rfl
    · cases h
  | .cst d, c, p, h, X, W, A => by
    unfold ckE at h
    unfold den
    split at h
    · rw [sameD_eq.1 _ _ h]; exact .mk (pe_cstI pe_int fun _ _ => mk_int) rfl
    · rw [sameD_eq.1 _ _ h]; exact .mk (pe_cstI pe_bl fun _ _ => mk_bl) rfl
    · rw [sameD_eq.1 _ _ h]; exact .mk (pe_cstI pe_str fun _ _ => mk_str) rfl
    · rw [sameD_eq.1 _ _ h]; exact .mk (pe_cstI pe_non fun _ _ => mk_non) rfl
    · cases h
  | .tup es, c, p, h, X, W, A => by
    unfold ckE at h
    split at h
    · unfold den; exact .mk (pe_tupI (sEs es c _ h X W A)) rfl
    · cases h
  | .lst es, c, p, h, X, W, A => by
    unfold ckE at h
    split at h
    · unfold den; exact .mk (pe_lstI (sEs es c _ h X W A)) rfl
    · cases h
  | .tupS fs, c, p, h, X, W, A => by
    unfold ckE at h
    split at h
    · unfold den; exact .mk (pe_tupI (sF fs c _ h X W A)) rfl
    · cases h
  | .lstS fs, c, p, h, X, W, A => by
    unfold ckE at h
    split at h
    · unfold den; exact .mk (pe_lstI (sF fs c _ h X W A)) rfl
    · cases h
  | .bin o a b, c, p, h, X, W, A => by
    unfold ckE at h
    split at h
    · obtain ⟨h, h4⟩ := bq h
      obtain ⟨h, h3⟩ := bq h
      obtain ⟨h1, h2⟩ := bq h
      have e := of_decide_eq_true h1
      subst e
      unfold den
      exact .mk (pe_binI h2 (sE a c _ h3 X W A).1 (sE b c _ h4 X W A).1) rfl
    · cases h
  | .neg a, c, p, h, X, W, A => by
    unfold ckE at h
    split at h
    · unfold den; exact .mk (pe_negI (sE a c _ h X W A).1) rfl
    · cases h
  | .not a, c, p, h, X, W, A => by
    unfold ckE at h
    split at h
    · unfold den
      have s := sE a c _ h X W A
      exact .mk2 (pe_notI s.1) (pt_notI s.2.1) (fun _ _ _ z => by cases z)
    · cases h
  | .cmp o a b, c, p, h, X, W, A => by
    unfold ckE at h
    split at h
    · obtain ⟨h, h5⟩ := bq h
      obtain ⟨h, h4⟩ := bq h
      obtain ⟨h, h3⟩ := bq h
      obtain ⟨h1, h2⟩ := bq h
      have e := of_decide_eq_true h1
      subst e
      unfold den
      have sa := (sE a c _ h3 X W A).1
      have sb := (sE b c _ h4 X W A).1
      exact .mk2 (pe_cmpI A.gok.units h2 sa sb (nomarkB (not_true h5) _)) (pt_cmpI A.gok.units h2 sa sb (nomarkB (not_true h5) _)) (fun _ _ _ z => by cases z)
    · cases h
  | .isN ng a, c, p, h, X, W, A => by
    unfold ckE at h
    split at h
    · obtain ⟨h1, h2⟩ := bq h
      have e := of_decide_eq_true h1
      subst e
      unfold den
      exact .mk2 (pe_isnI (ng := ng) (sE a c _ h2 X W A).1).1 (pe_isnI (ng := ng) (sE a c _ h2 X W A).1).2 (fun _ _ _ z => by cases z)
    · cases h
  | .chn o1 o2 a b d, c, p, h, X, W, A => by
    unfold ckE at h
    split at h
    · obtain ⟨h, h8⟩ := bq h
      obtain ⟨h, h7⟩ := bq h
      obtain ⟨h, h6⟩ := bq h
      obtain ⟨h, h5⟩ := bq h
      obtain ⟨h, h4⟩ := bq h
      obtain ⟨h, h3⟩ := bq h
      obtain ⟨h1, h2⟩ := bq h
      have e1 := of_decide_eq_true h1
      have e2 := of_decide_eq_true h2
      subst e1 e2
      unfold den
      have sa := (sE a c _ h5 X W A).1
      have sb := (sE b c _ h6 X W A).1
      have sd := (sE d c _ h7 X W A).1
      exact .mk2 (pe_chnI A.gok.units h3 h4 sa sb sd (nolastB (not_true h8) _ _)).1 (pe_chnI A.gok.units h3 h4 sa sb sd (nolastB (not_true h8) _ _)).2 (fun _ _ _ z => by cases z)
    · cases h
  | .and a b, c, p, h, X, W, A => by
    unfold ckE at h
    split at h
    · rename_i x y r q
      obtain ⟨h1, h2⟩ := bq h
      have sa := sE a c _ h1 X W A
      have sb : PE X (.BoolOp .And (y :: r) q) (tI X.K W (den cl b).1) ∧ PW X (.BoolOp .And (y :: r) q) (tIb X.K W (den cl b).2) := by
        split at h2
        · exact (sE b c _ h2 X W A).and1
        · have s := sE b c _ h2 X W A
          exact ⟨s.1, s.2.2 _ _ _ rfl⟩
      unfold den
      have w := pw_andI sa.2.1 sb.2
      exact ⟨pe_andI sa.1 sb.1, w.pt, fun _ _ _ e => by cases e; exact w⟩
    · cases h
  | .or a b, c, p, h, X, W, A => by
    unfold ckE at h
    split at h
    · rename_i x y r q
      obtain ⟨h1, h2⟩ := bq h
      have sa := sE a c _ h1 X W A
      have sb : PE X (.BoolOp .Or (y :: r) q) (tI X.K W (den cl b).1) ∧ PW X (.BoolOp .Or (y :: r) q) (tIb X.K W (den cl b).2) := by
        split at h2
        · exact (sE b c _ h2 X W A).or1
        · have s := sE b c _ h2 X W A
          exact ⟨s.1, s.2.2 _ _ _ rfl⟩
      unfold den
      have w := pw_orI sa.2.1 sb.2
      exact ⟨pe_orI sa.1 sb.1, w.pt, fun _ _ _ e => by cases e; exact w⟩
    · cases h
  | .ife t a b, c, p, h, X, W, A => by
    unfold ckE at h
    split at h
    · obtain ⟨h, h3⟩ := bq h
      obtain ⟨h1, h2⟩ := bq h
      have st := sE t c _ h1 X W A
      have sa := sE a c _ h2 X W A
      have sb := sE b c _ h3 X W A
      unfold den
      exact .mk2 (pe_ifeI st.2.1 sa.1 sb.1) (pt_ifeI st.2.1 sa.2.1 sb.2.1) (fun _ _ _ z => by cases z)
    · cases h
  | .idx a i, c, p, h, X, W, A => by
    unfold ckE at h
    split at h
    · obtain ⟨h, h3⟩ := bq h
      obtain ⟨h1, h2⟩ := bq h
      unfold den
      exact .mk (pe_idxI (sE a c _ h1 X W A).1 (sE i c _ h2 X W A).1 (plainB_ok h3)) rfl
    · cases h
  | .slc a lo hi, c, p, h, X, W, A => by
    unfold ckE at h
    split at h
    · obtain ⟨h, h3⟩ := bq h
      obtain ⟨h1, h2⟩ := bq h
      unfold den
      exact .mk (pe_slcI (sE a c _ h1 X W A).1 (sO lo c _ h2 X W A) (sO hi c _ h3 X W A)) rfl
    · cases h
  | .cal f es, c, p, h, X, W, A => by
    unfold ckE at h
    split at h
    · rename_i x px e ps q
      obtain ⟨h, h5⟩ := bq h
      obtain ⟨h, h4⟩ := bq h
      obtain ⟨h, h3⟩ := bq h
      obtain ⟨h1, h2⟩ := bq h
      have ex := of_decide_eq_true h1
      subst ex
      obtain ⟨fa, fd, pn, m1, m2, m3, m4⟩ := A.gok.fns _ (of_decide_eq_true h3)
      have hst := ckEs_stars h5
      unfold den
      exact .mk (pe_calI m4 A.gok.room A.gok.guards (Ck.gl_ok A.ck h2) m1 m2 m3 A.tk (sEs es c _ h5 X W A) (not_true h4) (star_of (starsB_head hst).1 _ _) (stars_any _ (starsB_head hst).2)) rfl
    · cases h
  | .blt b es, c, p, h, X, W, A => by
    unfold ckE at h
    split at h
    · rename_i x px e ps q
      obtain ⟨h, h4⟩ := bq h
      obtain ⟨h, h3⟩ := bq h
      obtain ⟨h1, h2⟩ := bq h
      have hst := ckEs_stars h4
      unfold den
      exact .mk (pe_bltI (Ck.gl_ok A.ck h2) (A.gok.fre _ (of_decide_eq_true h3)) (of_decide_eq_true h1) (sEs es c _ h4 X W A) A.ck.calm (star_of (starsB_head hst).1 _ _) (stars_any _ (starsB_head hst).2)) rfl
    · cases h
  | .isi a t, c, p, h, X, W, A => by
    unfold ckE at h
    split at h
    · rename_i x px e y py q
      obtain ⟨h, h8⟩ := bq h
      obtain ⟨h, h7⟩ := bq h
      obtain ⟨h, h6⟩ := bq h
      obtain ⟨h, h5⟩ := bq h
      obtain ⟨h, h4⟩ := bq h
      obtain ⟨h, h3⟩ := bq h
      obtain ⟨h1, h2⟩ := bq h
      have ex := of_decide_eq_true h1
      have ey := of_decide_eq_true h4
      subst ex ey
      unfold den
      exact .mk (pe_isiI (Ck.gl_ok A.ck h2) (A.gok.fre _ (of_decide_eq_true h3)) (Ck.gl_ok A.ck h5) (A.gok.fre _ (of_decide_eq_true h6)) (sE a c _ h7 X W A).1 (star_of (not_true h8) _ _)) rfl
    · cases h
  | .lrg es, c, p, h, X, W, A => by
    unfold ckE at h
    split at h
    · rename_i x px y py e ps q q2
      obtain ⟨h, h8⟩ := bq h
      obtain ⟨h, h7⟩ := bq h
      obtain ⟨h, h6⟩ := bq h
      obtain ⟨h, h5⟩ := bq h
      obtain ⟨h, h4⟩ := bq h
      obtain ⟨h, h3⟩ := bq h
      obtain ⟨h1, h2⟩ := bq h
      have ex := of_decide_eq_true h1
      have ey := of_decide_eq_true h4
      subst ex ey
      have hst := ckEs_stars h7
      unfold den
      exact .mk (pe_lrgI (gi := gi) A.ck.calm (Ck.gl_ok A.ck h2) (A.gok.fre _ (of_decide_eq_true h3)) (Ck.gl_ok A.ck h5) (A.gok.fre _ (of_decide_eq_true h6)) (sEs es c _ h7 X W A) (of_decide_eq_true h8) (star_of (starsB_head hst).1 _) (starsB_head hst).2) rfl
    · cases h
  | .rpr a, c, p, h, X, W, A => by
    unfold ckE at h
    split at h
    · rename_i x px l q1
      obtain ⟨h, h5⟩ := bq h
      obtain ⟨h, h4⟩ := bq h
      obtain ⟨h, h3⟩ := bq h
      obtain ⟨h1, h2⟩ := bq h
      have ex := of_decide_eq_true h1
      subst ex
      unfold den
      exact .mk (pe_rprI A.gok.guards A.gok.units (Ck.gl_ok A.ck h2) (A.gok.fre _ (of_decide_eq_true h3)) (sE a c _ h4 X W A).1 (star_of (not_true h5) _ _)) rfl
    · cases h
  | .frz a, c, p, h, X, W, A => by
    unfold ckE at h
    obtain ⟨h1, h2⟩ := bq h
    unfold den
    exact .mk (pe_frzI (sE a c _ h1 X W A).1) h2
  | .isE es a x all, c, p, h, X, W, A => by
    unfold ckE at h
    split at h
    · rename_i y py e z pz q1
      obtain ⟨h, h11⟩ := bq h
      obtain ⟨h, h10⟩ := bq h
      obtain ⟨h, h9⟩ := bq h
      obtain ⟨h, h8⟩ := bq h
      obtain ⟨h, h7⟩ := bq h
      obtain ⟨h, h6⟩ := bq h
      obtain ⟨h, h5⟩ := bq h
      obtain ⟨h, h4⟩ := bq h
      obtain ⟨h, h3⟩ := bq h
      obtain ⟨h1, h2⟩ := bq h
      have ey := of_decide_eq_true h1
      have ez := of_decide_eq_true h4
      subst ey ez
      unfold den
      exact .mk (pe_isEI A.gok (Ck.gl_ok A.ck h2) (A.gok.fre _ (of_decide_eq_true h3)) (of_decide_eq_true h11) (of_decide_eq_true h6) (Ck.gl_ok A.ck h5) (of_decide_eq_true h10) (not_true h7) (sE a c _ h8 X W A).1 (star_of (not_true h9) _ _)) rfl
    · cases h
  | .fld es a, c, p, h, X, W, A => by
    unfold ckE at h
    split at h
    · rename_i y q f q1
      obtain ⟨h, h3⟩ := bq h
      obtain ⟨h1, h2⟩ := bq h
      have ef := of_decide_eq_true h1
      subst ef
      unfold den
      exact .mk (pe_fldI A.gok (of_decide_eq_true h3) (sE a c _ h2 X W A).1 rfl) rfl
    · cases h
  | .isB ng k' a, c, p, h, X, W, A => by
    unfold ckE at h
    split at h
    · obtain ⟨h, h3⟩ := bq h
      obtain ⟨h1, h2⟩ := bq h
      have e := of_decide_eq_true h1
      subst e
      have e2 := of_decide_eq_true h2
      subst e2
      unfold den
      exact .mk2 (pe_isbI (ng := ng) (sE a c _ h3 X W A).1).1 (pe_isbI (ng := ng) (sE a c _ h3 X W A).1).2 (fun _ _ _ z => by cases z)
    · cases h
  | .rev a, c, p, h, X, W, A => by
    unfold ckE at h
    split at h
    · obtain ⟨h1, h2⟩ := bq h
      have e := of_decide_eq_true h1
      subst e
      unfold den
      exact .mk (pe_revI (sE a c _ h2 X W A).1) rfl
    · cases h
  | .hrd es a, c, p, h, X, W, A => by
    unfold ckE at h
    split at h
    · rename_i y py body scope lp q1
      obtain ⟨h, h8⟩ := bq h
      obtain ⟨h, h7⟩ := bq h
      obtain ⟨h, h6⟩ := bq h
      obtain ⟨h, h5⟩ := bq h
      obtain ⟨h, h4⟩ := bq h
      obtain ⟨h, h3⟩ := bq h
      obtain ⟨h1, h2⟩ := bq h
      have ey := of_decide_eq_true h1
      subst ey
      unfold den
      refine .mk (pe_hrdI A.gok (A.cod h4) (Ck.gl_ok A.ck h2) h3 (of_decide_eq_true h6) (of_decide_eq_true h7) (LamX.lamS_by (by rw [A.ck.sc]; exact h5)) fun A' outer s H E f c' hg hr => ?_) rfl
      exact (sE a ⟨c.N, scope, false⟩ body h8 (LamX.lamCx X A' outer s H E scope f c') (fun cls d _ H' => E cls d H') ⟨⟨A.ck.N, rfl, A.ck.nd, rfl, fun z => nomatch z⟩, ⟨A.gok.fns, A.gok.con, A.gok.fre, hr, by show A'.guards = _; rw [hg]; exact A.gok.guards, A.gok.ers, A.gok.kit, A.gok.sup, A.gok.hrd⟩, takes_of rfl rfl rfl rfl, fun z => nomatch z⟩).1
    · cases h
  | .mls es, c, p, h, X, W, A => by
    unfold ckE at h
    split at h
    · unfold den; exact .mk (pe_mlsI (sEs es c _ h X W A)) rfl
    · cases h
  | .lcm t s cd e own, c, p, h, X, W, A => by
    unfold ckE at h
    split at h
    · rename_i elt tg it ifs kk scope q
      obtain ⟨h, h8⟩ := bq h
      obtain ⟨h, h7⟩ := bq h
      obtain ⟨h, h6⟩ := bq h
      obtain ⟨h, h5⟩ := bq h
      obtain ⟨h, h4⟩ := bq h
      obtain ⟨h, h3⟩ := bq h
      obtain ⟨h1, h2⟩ := bq h
      have ek := of_decide_eq_true h1
      subst ek
      unfold den
      refine .mk (pe_lcmI A.ck.calm A.ck.nd (by rw [A.ck.N, A.ck.sc]; exact blkOk_by h2) (sI s c it tg h5 X W A) (of_decide_eq_true h4) (fun s H C cs fp => pg_I (A.ck.blk s H C cs fp) t tg h3)
        (fun s H C cs fp => sIfs cd _ ifs h7 _ _ ⟨A.ck.blk s H C cs fp, A.gok.blk .., takesF _ _ _ _ _, fun z => nomatch z⟩) (fun s H C cs fp => (sE e _ elt h8 _ _ ⟨A.ck.blk s H C cs fp, A.gok.blk .., takesF _ _ _ _ _, fun z => nomatch z⟩).1) (noset (not_true h6) _)) rfl
    · cases h
  | .mlc t s cd e own, c, p, h, X, W, A => by
    unfold ckE at h
    split at h
    · rename_i elt tg it ifs kk scope q
      obtain ⟨h, h8⟩ := bq h
      obtain ⟨h, h7⟩ := bq h
      obtain ⟨h, h6⟩ := bq h
      obtain ⟨h, h5⟩ := bq h
      obtain ⟨h, h4⟩ := bq h
      obtain ⟨h, h3⟩ := bq h
      obtain ⟨h1, h2⟩ := bq h
      have ek := of_decide_eq_true h1
      subst ek
      unfold den
      refine .mk (pe_mlcI A.ck.calm A.ck.nd (by rw [A.ck.N, A.ck.sc]; exact blkOk_by h2) (sI s c it tg h5 X W A) (of_decide_eq_true h4) (fun s H C cs fp => pg_I (A.ck.blk s H C cs fp) t tg h3)
        (fun s H C cs fp => sIfs cd _ ifs h7 _ _ ⟨A.ck.blk s H C cs fp, A.gok.blk .., takesF _ _ _ _ _, fun z => nomatch z⟩) (fun s H C cs fp => (sE e _ elt h8 _ _ ⟨A.ck.blk s H C cs fp, A.gok.blk .., takesF _ _ _ _ _, fun z => nomatch z⟩).1) (noset (not_true h6) _)) rfl
    · cases h
theorem sEs : ∀ (es : Es) (c : Ck) (ps : List Expr), ckEs gi c ps es = true → ∀ (X : Cx) (W : WX), Ar gi cl k c X W → PA X ps (tIa X.K W (dens cl es))
  | .nil, c, ps, h, X, W, A => by
    unfold ckEs at h
    split at h
    · unfold dens; exact pa_nilI
    · cases h
  | .cons e es, c, ps, h, X, W, A => by
    unfold ckEs at h
    split at h
    · obtain ⟨h, h3⟩ := bq h
      obtain ⟨h1, h2⟩ := bq h
      unfold dens
      exact pa_consI (sE e c _ h1 X W A).1 (sEs es c _ h3 X W A) (star_of (not_true h2) _ _)
    · cases h
theorem sF : ∀ (fs : Fs) (c : Ck) (ps : List Expr), ckF gi c ps fs = true → ∀ (X : Cx) (W : WX), Ar gi cl k c X W → PA X ps (tIa X.K W (denf cl fs))
  | .nil, c, ps, h, X, W, A => by
    unfold ckF at h
    split at h
    · unfold denf; exact pa_nilI
    · cases h
  | .cons e fs, c, ps, h, X, W, A => by
    unfold ckF at h
    split at h
    · obtain ⟨h, h3⟩ := bq h
      obtain ⟨h1, h2⟩ := bq h
      unfold denf
      exact pa_consI (sE e c _ h1 X W A).1 (sF fs c _ h3 X W A) (star_of (not_true h2) _ _)
    · cases h
  | .star e fs, c, ps, h, X, W, A => by
    unfold ckF at h
    split at h
    · obtain ⟨h1, h2⟩ := bq h
      unfold denf
      exact pa_starI (sE e c _ h1 X W A).1 (sF fs c _ h2 X W A)
    · cases h
theorem sO : ∀ (e : Eo) (c : Ck) (p : Option Expr), ckO gi c p e = true → ∀ (X : Cx) (W : WX), Ar gi cl k c X W → PO X p (tIo X.K W (deno cl e))
  | .none, c, p, h, X, W, A => by
    unfold ckO at h
    split at h
    · unfold deno; exact po_noneI
    · cases h
  | .some e, c, p, h, X, W, A => by
    unfold ckO at h
    split at h
    · unfold deno; exact po_someI (sE e c _ h X W A).1
    · cases h
theorem sIfs : ∀ (e : Eo) (c : Ck) (ps : List Expr), ckIfs gi c ps e = true → ∀ (X : Cx) (W : WX), Ar gi cl k c X W → PTs X ps (tIb X.K W (dent cl e))
  | .none, c, ps, h, X, W, A => by
    unfold ckIfs at h
    split at h
    · unfold dent
      exact ⟨fun pins s σ H Q I ⟨env, ρ, μ, er, S, q⟩ => pts_nil.run pins s σ H Q I (Fin.now (R := rB) q S rfl)⟩
    · cases h
  | .some e, c, ps, h, X, W, A => by
    unfold ckIfs at h
    split at h
    · unfold dent; exact pts_one (sE e c _ h X W A).2.1
    · cases h
theorem sI : ∀ (s : Src) (c : Ck) (p tg : Expr), ckI gi c p (tupB tg) s = true → ∀ (X : Cx) (W : WX), Ar gi cl k c X W → PI X tg p (tG (fun ρ H w J => WkR X.K ρ H J 0 w) X.K W (deni cl s))
  | .seq e, c, p, tg, h, X, W, A => by
    unfold ckI at h
    unfold deni
    exact pi_seqI (sE e c _ h X W A).1
  | .rng1 a, c, p, tg, h, X, W, A => by
    unfold ckI at h
    split at h
    · obtain ⟨h, h5⟩ := bq h
      obtain ⟨h, h4⟩ := bq h
      obtain ⟨h, h3⟩ := bq h
      obtain ⟨h1, h2⟩ := bq h
      have ey := of_decide_eq_true h1
      subst ey
      unfold deni
      exact pi_rng1I (Ck.gl_ok A.ck h2) (A.gok.fre _ (of_decide_eq_true h3)) (sE a c _ h4 X W A).1 (not_true h5)
    · cases h
  | .rng2 a b, c, p, tg, h, X, W, A => by
    unfold ckI at h
    split at h
    · obtain ⟨h, h7⟩ := bq h
      obtain ⟨h, h6⟩ := bq h
      obtain ⟨h, h5⟩ := bq h
      obtain ⟨h, h4⟩ := bq h
      obtain ⟨h, h3⟩ := bq h
      obtain ⟨h1, h2⟩ := bq h
      have ey := of_decide_eq_true h1
      subst ey
      unfold deni
      exact pi_rng2I (Ck.gl_ok A.ck h2) (A.gok.fre _ (of_decide_eq_true h3)) (sE a c _ h4 X W A).1 (sE b c _ h5 X W A).1 (not_true h6) (not_true h7)
    · cases h
  | .zip a b, c, p, tg, h, X, W, A => by
    unfold ckI at h
    split at h
    · obtain ⟨h, h8⟩ := bq h
      obtain ⟨h, h7⟩ := bq h
      obtain ⟨h, h6⟩ := bq h
      obtain ⟨h, h5⟩ := bq h
      obtain ⟨h, h4⟩ := bq h
      obtain ⟨h, h3⟩ := bq h
      obtain ⟨h1, h2⟩ := bq h
      have ey := of_decide_eq_true h1
      subst ey
      unfold deni
      cases tg with
      | Tuple elts kk tpos => exact pi_zipI (Ck.gl_ok A.ck h2) (A.gok.fre _ (of_decide_eq_true h3)) (sE a c _ h4 X W A).1 (sE b c _ h5 X W A).1 (not_true h7) (not_true h8)
      | _ => cases h6
    · cases h
  | .enu a, c, p, tg, h, X, W, A => by
    unfold ckI at h
    split at h
    · obtain ⟨h, h6⟩ := bq h
      obtain ⟨h, h5⟩ := bq h
      obtain ⟨h, h4⟩ := bq h
      obtain ⟨h, h3⟩ := bq h
      obtain ⟨h1, h2⟩ := bq h
      have ey := of_decide_eq_true h1
      subst ey
      unfold deni
      cases tg with
      | Tuple elts kk tpos => exact pi_enuI (Ck.gl_ok A.ck h2) (A.gok.fre _ (of_decide_eq_true h3)) (sE a c _ h4 X W A).1 (not_true h6)
      | _ => cases h5
    · cases h
end
end
end Rf


set_option Elab.async false
set_option linter.all false
set_option maxRecDepth 100000
set_option maxHeartbeats 2000000
/-! Rf, part I: statements: the checker, and that it is right. -/
namespace Rf
open PySem PySem.Spec PyProof.Rows L2

/-! ### a list unpacked -/
section
variable {prog : Program} {w : World} {A : Around} {E : Value → Shared → Prop}
theorem drawL {it l : Addr} {items : Array Value} (hne : l ≠ it) : ∀ (n i : Nat) (s : Shared) (Q : List Value → Shared → Prop), s.heap.IsListIter it l i → s.heap.IsList l items → i + n ≤ items.size →
    (∀ h', h'.IsListIter it l (i + n) → Heap.SameBut it s.heap h' → Q ((items.toList.drop i).take n) { s with heap := h' }) → wpAny (model prog w) A (draw (.ref it) n) Q E s := by
  intro n
  induction n with
  | zero =>
    intro i s Q a b c q
    have z := q s.heap a (Heap.SameBut.refl ..)
    rw [List.take_zero] at z
    exact wpAny_pure z
  | succ n ih =>
    intro i s Q a b c q
    have lt : i < items.size := by omega
    have hg : items[i]? = some items[i] := Array.getElem?_eq_getElem lt
    have run := wpAny_pyNext_list_item (prog := prog) (w := w) (A := A) (E := E) (Q := fun r s₁ => wpAny (model prog w) A (match r with | none => pure [] | some v => do return v :: (← holding [v] (draw (.ref it) n))) Q E s₁) a b hg fun h1 a1 sb => by
      refine wpAny_bind (wpAny_holding (ih (i + 1) { s with heap := h1 } _ a1 (b.extBut sb.extBut hne) (by omega) fun h2 a2 sb2 => ?_))
      have q2 := q h2 (by have e : i + (n + 1) = i + 1 + n := by omega
                          rw [e]; exact a2) (sb.trans sb2)
      have ed : items.toList.drop i = items[i] :: items.toList.drop (i + 1) := by rw [List.drop_eq_getElem_cons (by simpa using lt)]; simp
      rw [ed, List.take_succ_cons] at q2
      exact wpAny_pure q2
    exact wpAny_bind run
theorem unpackL {l : Addr} {items : Array Value} {s : Shared} {Q : List Value → Shared → Prop} (hh : A.handled = none) (b : s.heap.IsList l items) (q : ∀ h', Heap.ExtBut s.heap.objs.size s.heap h' → Q items.toList { s with heap := h' }) :
    wpAny (model prog w) A (unpackItems (.ref l) items.size none) Q E s := by
  have ne : l ≠ s.heap.objs.size := let ⟨o, e, _⟩ := b; Nat.ne_of_lt (Heap.lt_size e)
  unfold unpackItems notIterableAtAll
  refine wpAny_bind (wpAny_bind (wpAny_specialOf b.typeIs slot_list_iter.lookup (wpAny_pure ?_)))
  simp only [if_false, Bool.false_eq_true]
  refine wpAny_bind (wpAny_holding (wpAny_pyIter_list b (wpAny_bind (wpAny_holding (drawL ne items.size 0 _ _ ⟨_, Heap.get?_push_size _ rfl, rfl, rfl⟩ (b.push _) (by omega) fun h1 a1 sb => ?_)))))
  have all : (items.toList.drop 0).take items.size = items.toList := List.take_of_length_le (by simp)
  rw [all, if_neg (by simp)]
  have b1 : h1.IsList l items := (b.push _).extBut sb.extBut ne
  refine wpAny_bind (wpAny_holding (wpAny_pyNext_list_end hh a1 b1 (by simp) fun h2 eb => ?_))
  rw [if_neg (by simp)]
  exact wpAny_pure (q h2 fun c o hc e => eb c o hc (sb.extBut c o hc (Heap.get?_push_of_some _ e)))
theorem assignL {s : Shared} {env : Env} {elts : List Expr} {x1} {pos : Pos} {l : Addr} {items : Array Value} {Q : Unit → Shared → Prop} (hh : A.handled = none) (b : s.heap.IsList l items) (hn : (assignEach elts env).length = items.size) (hs : (assignEach elts env).findIdx? (·.1) = none)
    (q : ∀ h', Heap.ExtBut s.heap.objs.size s.heap h' → wpAny (model prog w) A (assignInOrder ((assignEach elts env).map (·.2)) items.toList) Q E { s with heap := h' }) : wpAny (model prog w) A (assign (.Tuple elts x1 pos) env (.ref l)) Q E s := by
  rw [assign_Tuple]
  refine wpAny_bind (wpAny_standAt ?_)
  unfold unpack
  rw [hn, hs]
  exact wpAny_bind (wpAny_holding (unpackL hh b q))
end
section
variable {X : Cx} {c : Ck}
/-- a target, its value a tuple or a list -/
def gJ (K : PySem.W.Frag) (t : Tg) : TG := fun v σ H Q => ∃ env ρ μ d env', EnvR K ρ H env σ ∧ Sim K ρ H μ ∧ Rep K ρ H d v ∧ t.set (asTup μ d) env = some env' ∧ ∀ σ', EnvR K ρ H env' σ' → Q σ' H
theorem pg_J (g : CkOk c X) (t : Tg) (e : Expr) (h : ckT c e t = true) (hn : ∀ i, t ≠ .nm i) : PG X e (gJ X.K t) := by
  refine ⟨fun pins s σ H v u Q I r ⟨env, ρ, μ, d, env', er, S, rd, hs, q⟩ => ?_⟩
  have old : ∀ d', Rep X.K ρ H d' v → t.set d' env = some env' → wpAny (model X.prog X.w) X.A (assign e X.env u) (fun _ s' => ∃ σ' H', Inv X pins σ' H' s' ∧ Q σ' H') X.xe s :=
    fun d' r' e' => (pg_I g t e h).run pins s σ H v u Q I r ⟨env, ρ, μ, d', env', er, S, r', e', fun σ' er' _ => q σ' er'⟩
  unfold asTup at hs
  cases eq : seqOf μ d with
  | none => rw [eq] at hs; exact old d rd hs
  | some ds =>
    rw [eq] at hs
    by_cases isT : ∃ xs, d = .tup xs
    · obtain ⟨xs, rfl⟩ := isT
      cases eq
      exact old _ rd hs
    · obtain ⟨a, vs, rfl, rs, hh⟩ := seqOf_sq S rd eq
      have hl : SqL X.K H a vs := by
        rcases hh with z | z
        · exact absurd ⟨_, z.2⟩ isT
        · exact z.1
      cases t with
      | nm i => exact absurd rfl (hn i)
      | tp ts =>
        cases e with
        | Tuple es k p =>
          unfold ckT at h
          obtain ⟨h1, h2⟩ := ckTs_len X.env h
          unfold Tg.set at hs
          cases r
          obtain ⟨its, rv, pl, hz⟩ := I.list hl
          have ln : its.length = ts.length := by rw [← rv.length, rs.length, sets_len hs]
          refine assignL (I.ok.hd g.calm) pl.isList (by rw [h1]; simpa using ln.symm) h2 fun h' eb => ?_
          have I1 : Inv X pins σ H { s with heap := h' } := I.kept (t' := s.toks) fun b o z => eb b o (Nat.ne_of_lt (Heap.lt_size z)) z
          refine (pgs_I g ts es h).run pins _ σ H vs _ Q I1 (by simpa using rv) ⟨env, ρ, μ, ds, env', er, S, rs, hs, fun σ' er' _ => q σ' er'⟩
        | _ => unfold ckT at h; cases h
end

/-! ### statements, one by one -/
/-- a statement's value is no comprehension -/
def compB : Expr → Bool
  | .ListComp _ _ _ _ => true
  | .SetComp _ _ _ _ => true
  | .DictComp _ _ _ _ _ => true
  | _ => false
theorem nosw {e : Expr} (h : compB e = false) (t : Option Expr) (l : Nat) (env : Env) : swapsWith e t l env = pure false := by
  cases e <;> first | rfl | cases h
/-- a comprehension stored in a cell -/
theorem nosw_cell {e : Expr} {x : Str} {px : Pos} {l : Nat} {env : Env} (h : env.scope.names.lookup x ≠ some .local) : swapsWith e (some (.Name x px)) l env = pure false := by
  have k : (env.kindOf x == some .local) = false := by
    cases q : env.kindOf x == some NameKind.local with
    | false => rfl
    | true => exact absurd (eq_of_beq q) h
  cases e <;> first | rfl | (show (pure (env.blockKind == .function && env.kindOf x == some .local && _ && !_) : Sem Bool) = pure false; rw [k, Bool.and_false, Bool.false_and, Bool.false_and])
section
variable {X : Cx} {c : Ck} {W : WX} {pos : Pos}
theorem ps_setI {i : Nat} {x : Str} {px : Pos} {e : Expr} {f : Dn} (g : CkOk c X) (hi : c.N[i]? = some x) (hx : c.loc x = true) (he : PE X e (tI X.K W f)) (hs : compB e = false ∨ c.sc.names.lookup x ≠ some .local) : PS X (.Assign [.Name x px] e pos) (tS X.K W (setS i f)) := by
  unfold Ck.loc at hx
  have hN : X.N[i]? = some x := by rw [g.N]; exact hi
  have hl : Loc X.env.scope x := by
    rw [g.sc]
    rcases Bool.or_eq_true_iff.mp hx with z | z
    · exact .inl (of_decide_eq_true z)
    · exact .inr (of_decide_eq_true (Bool.and_eq_true_iff.mp z).2)
  have hf : X.fn x = true ∨ X.env.scope.names.lookup x = some .local := by
    rcases Bool.or_eq_true_iff.mp hx with z | z
    · exact .inr (by rw [g.sc]; exact of_decide_eq_true z)
    · exact .inl (g.fn (Bool.and_eq_true_iff.mp z).1 x)
  refine ps_imp (ps_set g.nd hN hl he (hs.elim (fun z => nosw z _ _ _) fun z => nosw_cell (by rw [g.sc]; exact z)) hf) fun D σ H ⟨env, ρ, μ, er, S, h⟩ => (goS (R := Rep X.K) er S h).mono fun v H1 ⟨ρ1, μ1, d, x1, S1, r1, q1⟩ => ?_
  exact nowF (g := .nx (σ.set i (some v))) q1 S1 ((er.ext x1).set r1)
/-- a new list in a slot may be frozen at once -/
def LkD (D : Ends) (i : Nat) (σ : L2.St) : Ends := { D with nx := fun σ' H => D.nx σ' H ∨ ∃ p vs, H p = some (.lst vs) ∧ ∀ od, D.nx σ' (upd H p (.frz od (.lst vs))) }
theorem ps_lk {st : Stmt} {t : TS} (h : PS X st t) : PS X st (fun D σ H => t { D with nx := fun σ' H => D.nx σ' H ∨ ∃ p vs, H p = some (.lst vs) ∧ ∀ od, D.nx σ' (upd H p (.frz od (.lst vs))) } σ H) :=
  ⟨fun pins s σ H D I q => thn (h.run pins s σ H _ I q) fun f s' z => by
    cases f with
    | next =>
      obtain ⟨σ', H', I', q'⟩ := z
      rcases q' with q' | ⟨p, vs, e, q'⟩
      · exact ⟨σ', H', I', q'⟩
      · obtain ⟨od, I2⟩ := I'.lock e trivial
        exact ⟨σ', _, I2, q' od⟩
    | brk => exact z
    | cont => exact z
    | ret u => exact z⟩
theorem ps_setLcI {i : Nat} {x : Str} {px pc : Pos} {elt tg it : Expr} {ifs : List Expr} {scope : Scope} {s : Di} {cd : Dt} {e : Dn} {t : Tg} {own : List (Str × Nat)} {wf : Nat} (g : CkOk c X) (hk : c.sc.kind = .function) (hi : c.N[i]? = some x) (hx : c.sc.names.lookup x = some .local) (hl : (px.line == pc.line) = true)
    (ha : (scope.names.any fun (n, k) => n == x && (k == .local || k == .cell)) = false) (hit : PI X tg it (tG (fun ρ H w J => WkR X.K ρ H J 0 w) X.K W s)) (ok : BlkOk X.N X.env.scope scope own) (hsl : ∀ j ∈ t.slots, j ∈ own.map (·.2))
    (hg : ∀ (s : Shared) (H : Hp) (C : Addr) (cl : List (Str × Addr)) (fp : List Addr), PG (X.blk s H scope (compEnvC scope cl C X.env) fp) tg (gI X.K t))
    (ht : ∀ (s : Shared) (H : Hp) (C : Addr) (cl : List (Str × Addr)) (fp : List Addr), PTs (X.blk s H scope (compEnvC scope cl C X.env) fp) ifs (tG rB X.K (fun _ _ _ _ => False) cd))
    (he : ∀ (s : Shared) (H : Hp) (C : Addr) (cl : List (Str × Addr)) (fp : List Addr), PE (X.blk s H scope (compEnvC scope cl C X.env) fp) elt (tG (Rep X.K) X.K (fun _ _ _ _ => False) e)) (hns : ∀ x, foldedSetIterable it X.env x = pure x) :
    PS X (.Assign [.Name x px] (.ListComp elt [⟨tg, it, ifs, 0⟩] scope pc) pos) (tS X.K W (setS i (lcmV wf t s cd e (own.map (·.2))))) := by
  have hN : X.N[i]? = some x := by rw [g.N]; exact hi
  have hy : X.env.scope.names.lookup x = some .local := by rw [g.sc]; exact hx
  refine ps_imp (ps_lk (ps_setLc g.calm g.nd hN hy (sw_true (by rw [g.sc]; exact hk) hy hl ha) hit ok hg ht he hns)) fun D σ H ⟨env, ρ, μ, er, S, h⟩ => ?_
  refine lc_reads (wf := wf) (nw := newR) (Q := fun v H => D.nx (σ.set i (some v)) H) hsl (fun hD x2 S2 hD2 nD2 r2 h2 => (lc_newR hD x2 S2 hD2 nD2 r2 h2).imp id fun ⟨p, vs, e1, e2, e3⟩ => ⟨p, vs, e2, e3⟩) ((goS (R := Rep X.K) er S h).mono fun v H1 ⟨ρ1, μ1, d, x1, S1, r1, q1⟩ => ?_)
  exact nowF (g := .nx (σ.set i (some v))) q1 S1 ((er.ext x1).set r1)
theorem ps_setMcI {i : Nat} {x : Str} {px pc : Pos} {elt tg it : Expr} {ifs : List Expr} {scope : Scope} {s : Di} {cd : Dt} {e : Dn} {t : Tg} {own : List (Str × Nat)} {wf : Nat} (g : CkOk c X) (hk : c.sc.kind = .function) (hi : c.N[i]? = some x) (hx : c.sc.names.lookup x = some .local) (hl : (px.line == pc.line) = true)
    (ha : (scope.names.any fun (n, k) => n == x && (k == .local || k == .cell)) = false) (hit : PI X tg it (tG (fun ρ H w J => WkR X.K ρ H J 0 w) X.K W s)) (ok : BlkOk X.N X.env.scope scope own) (hsl : ∀ j ∈ t.slots, j ∈ own.map (·.2))
    (hg : ∀ (s : Shared) (H : Hp) (C : Addr) (cl : List (Str × Addr)) (fp : List Addr), PG (X.blk s H scope (compEnvC scope cl C X.env) fp) tg (gI X.K t))
    (ht : ∀ (s : Shared) (H : Hp) (C : Addr) (cl : List (Str × Addr)) (fp : List Addr), PTs (X.blk s H scope (compEnvC scope cl C X.env) fp) ifs (tG rB X.K (fun _ _ _ _ => False) cd))
    (he : ∀ (s : Shared) (H : Hp) (C : Addr) (cl : List (Str × Addr)) (fp : List Addr), PE (X.blk s H scope (compEnvC scope cl C X.env) fp) elt (tG (Rep X.K) X.K (fun _ _ _ _ => False) e)) (hns : ∀ x, foldedSetIterable it X.env x = pure x) :
    PS X (.Assign [.Name x px] (.ListComp elt [⟨tg, it, ifs, 0⟩] scope pc) pos) (tS X.K W (setS i (mlcV wf t s cd e (own.map (·.2))))) := by
  have hN : X.N[i]? = some x := by rw [g.N]; exact hi
  have hy : X.env.scope.names.lookup x = some .local := by rw [g.sc]; exact hx
  refine ps_imp (ps_setLc g.calm g.nd hN hy (sw_true (by rw [g.sc]; exact hk) hy hl ha) hit ok hg ht he hns) fun D σ H ⟨env, ρ, μ, er, S, h⟩ => ?_
  refine lc_reads (wf := wf) (nw := newL) (Q := fun v H => D.nx (σ.set i (some v)) H) hsl (fun hD x2 S2 hD2 nD2 r2 h2 => lc_newL (Q := fun v H => D.nx (σ.set i (some v)) H) hD x2 S2 hD2 nD2 r2 h2) ((goS (R := Rep X.K) er S h).mono fun v H1 ⟨ρ1, μ1, d, x1, S1, r1, q1⟩ => ?_)
  exact nowF (g := .nx (σ.set i (some v))) q1 S1 ((er.ext x1).set r1)
theorem ps_tgtI {e tg : Expr} {f : Dn} {t : Tg} (g : CkOk c X) (he : PE X e (tI X.K W f)) (ht : ckT c tg t = true) (hn : ∀ i, t ≠ .nm i) (hs : swapsWithSole [tg] e pos.line X.env = pure false) (hw : swappedStores [tg] e X.env = pure none) :
    PS X (.Assign [tg] e pos) (tS X.K W (tgtS t f)) := by
  refine ps_imp (ps_asg he (pg_J g t tg ht hn) hs hw (by rw [ckT_assign ht]; rfl)) fun D σ H ⟨env, ρ, μ, er, S, h⟩ => (goS (R := Rep X.K) er S h).mono fun v H1 ⟨ρ1, μ1, d, x1, S1, r1, q1⟩ => ?_
  cases es : t.set (asTup μ1 d) env with
  | none => rw [es] at q1; exact (show False from q1).elim
  | some env' =>
    rw [es] at q1
    exact ⟨env, ρ1, μ1, d, env', er.ext x1, S1, r1, es, fun σ' er' => nowF (g := .nx σ') q1 S1 er'⟩
theorem ps_parI {i j : Nat} {x y : Str} {a b : Expr} {fa fb : Dn} {px py pt : Pos} {kt k2 pt2} (g : CkOk c X) (hk : c.sc.kind = .function) (hi : c.N[i]? = some x) (hj : c.N[j]? = some y) (hx : c.sc.names.lookup x = some .local) (hy : c.sc.names.lookup y = some .local) (hij : i ≠ j)
    (ha : PE X a (tI X.K W fa)) (hb : PE X b (tI X.K W fb)) (sa : starB a = false) (sb : starB b = false) (hl : (py.line == px.line) = true) (hxy : x ≠ y) (nf : [a, b].all (foldedForSure 8) = false) (nc : [a, b].all (constantsAlone 8) = false) :
    PS X (.Assign [.Tuple [.Name x px, .Name y py] kt pt] (.Tuple [a, b] k2 pt2) pos) (tS X.K W (parS i j fa fb)) := by
  have hNi : X.N[i]? = some x := by rw [g.N]; exact hi
  have hNj : X.N[j]? = some y := by rw [g.N]; exact hj
  have lx : X.env.scope.names.lookup x = some .local := by rw [g.sc]; exact hx
  have ly : X.env.scope.names.lookup y = some .local := by rw [g.sc]; exact hy
  have pa : PA X [a, b] (tIa X.K W (consS fa (consS fb nilS))) := pa_consI ha (pa_consI hb pa_nilI (star_of sb _ _)) (star_of sa _ _)
  have hw : swappedStores [.Tuple [.Name x px, .Name y py] kt pt] (.Tuple [a, b] k2 pt2) X.env = pure (some [x, y]) := by
    have kx : X.env.kindOf x = some .local := lx
    have ky : X.env.kindOf y = some .local := ly
    have bk : X.env.blockKind = .function := by unfold Env.blockKind; rw [g.sc, hk]; rfl
    have na : ∀ e : Expr, starB e = false → (match e with | .Starred .. => true | _ => false) = false := fun e h => by cases e <;> first | rfl | cases h
    have ne : (y == x) = false := by simpa using fun z : y = x => hxy z.symm
    have ne2 : (x == y) = false := by simpa using hxy
    have sv : ([a, b].any fun | .Starred .. => true | _ => false) = false := by
      simp only [List.any_cons, List.any_nil, Bool.or_false]
      rw [na a sa, na b sb]; rfl
    unfold swappedStores
    simp only [sv, nf, nc, bk, kx, ky, hl]
    simp [kx, ky, eq_of_beq hl, List.eraseDups_cons, ne, ne2, Expr.pos]
    intro z
    rcases z with z | z
    · exact absurd ((na a sa).symm.trans z) Bool.false_ne_true
    · exact absurd ((na b sb).symm.trans z) Bool.false_ne_true
  refine ps_imp (ps_par g.calm g.nd hNi hNj hij lx ly pa hw (by rfl)) fun D σ H ⟨env, ρ, μ, er, S, h⟩ => ?_
  refine ⟨env, ρ, μ, er, S, ?_⟩
  show Fin (Reps X.K) (fun c dx H' => W c dx σ H') X.K ρ H ((fa env μ).bind fun d μ => ((fb env μ).bind fun d μ => (Out.ok [] μ).bind fun ds μ => .ok (d :: ds) μ).bind fun ds μ => .ok (d :: ds) μ) _
  unfold parS at h
  cases ea : fa env μ with
  | no => rw [ea] at h; exact h
  | exc c0 d0 μ0 =>
    rw [ea] at h
    exact fun ρ1 H1 dx v x s r z => h ρ1 H1 (.ex (.ref (He.ga X.K c0)) (some dx) σ) x s ⟨er.ext x, rfl, dx, v, rfl, z, r⟩
  | ok d1 μ1 =>
    rw [ea] at h
    simp only [Out.bind, Out.stm] at h ⊢
    cases eb : fb env μ1 with
    | no => rw [eb] at h; exact h
    | exc c0 d0 μ0 =>
      rw [eb] at h
      exact fun ρ1 H1 dx v x s r z => h ρ1 H1 (.ex (.ref (He.ga X.K c0)) (some dx) σ) x s ⟨er.ext x, rfl, dx, v, rfl, z, r⟩
    | ok d2 μ2 =>
      rw [eb] at h
      intro ρ1 H1 vs x s r
      obtain ⟨v, u, rfl, r1, r2⟩ := reps2 r
      exact ⟨v, u, rfl, nowF (g := .nx ((σ.set i (some v)).set j (some u))) (Fin.ext x h) s (((er.ext x).set r1).set r2)⟩
theorem ps_par3I {i j l : Nat} {x y z : Str} {a b d : Expr} {fa fb fd : Dn} {px py pz pt : Pos} {kt k2 pt2} (g : CkOk c X) (hk : c.sc.kind = .function) (hi : c.N[i]? = some x) (hj : c.N[j]? = some y) (hl3 : c.N[l]? = some z) (hx : c.sc.names.lookup x = some .local) (hy : c.sc.names.lookup y = some .local) (hz : c.sc.names.lookup z = some .local) (hij : i ≠ j) (hil : i ≠ l) (hjl : j ≠ l)
    (ha : PE X a (tI X.K W fa)) (hb : PE X b (tI X.K W fb)) (hd : PE X d (tI X.K W fd)) (sa : starB a = false) (sb : starB b = false) (sd : starB d = false) (hl : (py.line == px.line) = true) (hl2 : (pz.line == px.line) = true) (hxy : x ≠ y) (hxz : x ≠ z) (hyz : y ≠ z) (nf : [a, b, d].all (foldedForSure 8) = false) (nc : [a, b, d].all (constantsAlone 8) = false) :
    PS X (.Assign [.Tuple [.Name x px, .Name y py, .Name z pz] kt pt] (.Tuple [a, b, d] k2 pt2) pos) (tS X.K W (par3S i j l fa fb fd)) := by
  have hNi : X.N[i]? = some x := by rw [g.N]; exact hi
  have hNj : X.N[j]? = some y := by rw [g.N]; exact hj
  have hNl : X.N[l]? = some z := by rw [g.N]; exact hl3
  have lx : X.env.scope.names.lookup x = some .local := by rw [g.sc]; exact hx
  have ly : X.env.scope.names.lookup y = some .local := by rw [g.sc]; exact hy
  have lz : X.env.scope.names.lookup z = some .local := by rw [g.sc]; exact hz
  have pa : PA X [a, b, d] (tIa X.K W (consS fa (consS fb (consS fd nilS)))) := pa_consI ha (pa_consI hb (pa_consI hd pa_nilI (star_of sd _ _)) (star_of sb _ _)) (star_of sa _ _)
  have hw : swappedStores [.Tuple [.Name x px, .Name y py, .Name z pz] kt pt] (.Tuple [a, b, d] k2 pt2) X.env = pure (some [x, y, z]) := by
    have kx : X.env.kindOf x = some .local := lx
    have ky : X.env.kindOf y = some .local := ly
    have kz : X.env.kindOf z = some .local := lz
    have bk : X.env.blockKind = .function := by unfold Env.blockKind; rw [g.sc, hk]; rfl
    have na : ∀ e : Expr, starB e = false → (match e with | .Starred .. => true | _ => false) = false := fun e h => by cases e <;> first | rfl | cases h
    have n1 : (y == x) = false := by simpa using fun q : y = x => hxy q.symm
    have n2 : (z == x) = false := by simpa using fun q : z = x => hxz q.symm
    have n3 : (z == y) = false := by simpa using fun q : z = y => hyz q.symm
    have n4 : (x == y) = false := by simpa using hxy
    have n5 : (x == z) = false := by simpa using hxz
    have n6 : (y == z) = false := by simpa using hyz
    have sv : ([a, b, d].any fun | .Starred .. => true | _ => false) = false := by
      simp only [List.any_cons, List.any_nil, Bool.or_false]
      rw [na a sa, na b sb, na d sd]; rfl
    unfold swappedStores
    simp only [sv, nf, nc, bk, kx, ky, kz, hl]
    simp [kx, ky, kz, eq_of_beq hl, eq_of_beq hl2, List.eraseDups_cons, n1, n2, n3, n4, n5, n6, Expr.pos]
    intro q
    rcases q with q | q | q
    · exact absurd ((na a sa).symm.trans q) Bool.false_ne_true
    · exact absurd ((na b sb).symm.trans q) Bool.false_ne_true
    · exact absurd ((na d sd).symm.trans q) Bool.false_ne_true
  refine ps_imp (ps_par3 g.calm g.nd hNi hNj hNl hij hil hjl lx ly lz pa hw (by rfl)) fun D σ H ⟨env, ρ, μ, er, S, h⟩ => ?_
  refine ⟨env, ρ, μ, er, S, ?_⟩
  show Fin (Reps X.K) (fun c dx H' => W c dx σ H') X.K ρ H ((fa env μ).bind fun d μ => ((fb env μ).bind fun d μ => ((fd env μ).bind fun d μ => (Out.ok [] μ).bind fun ds μ => .ok (d :: ds) μ).bind fun ds μ => .ok (d :: ds) μ).bind fun ds μ => .ok (d :: ds) μ) _
  unfold par3S at h
  cases ea : fa env μ with
  | no => rw [ea] at h; exact h
  | exc c0 d0 μ0 =>
    rw [ea] at h
    exact fun ρ1 H1 dx v x s r z => h ρ1 H1 (.ex (.ref (He.ga X.K c0)) (some dx) σ) x s ⟨er.ext x, rfl, dx, v, rfl, z, r⟩
  | ok d1 μ1 =>
    rw [ea] at h
    simp only [Out.bind, Out.stm] at h ⊢
    cases eb : fb env μ1 with
    | no => rw [eb] at h; exact h
    | exc c0 d0 μ0 =>
      rw [eb] at h
      exact fun ρ1 H1 dx v x s r z => h ρ1 H1 (.ex (.ref (He.ga X.K c0)) (some dx) σ) x s ⟨er.ext x, rfl, dx, v, rfl, z, r⟩
    | ok d2 μ2 =>
      rw [eb] at h
      simp only at h ⊢
      cases ed : fd env μ2 with
      | no => rw [ed] at h; exact h
      | exc c0 d0 μ0 =>
        rw [ed] at h
        exact fun ρ1 H1 dx v x s r z => h ρ1 H1 (.ex (.ref (He.ga X.K c0)) (some dx) σ) x s ⟨er.ext x, rfl, dx, v, rfl, z, r⟩
      | ok d3 μ3 =>
        rw [ed] at h
        intro ρ1 H1 vs x s r
        obtain ⟨v, vr, rfl, r1, rr⟩ := r.uncons
        obtain ⟨u, w, rfl, r2, r3⟩ := reps2 rr
        exact ⟨v, u, w, rfl, nowF (g := .nx (((σ.set i (some v)).set j (some u)).set l (some w))) (Fin.ext x h) s ((((er.ext x).set r1).set r2).set r3)⟩
theorem obj_lst {K : PySem.W.Frag} {ρ : List Addr} {H : Hp} {μ : Sto} {n : Nat} {ds : List D} {a : Addr} (S : Sim K ρ H μ) (ea : ρ[n]? = some a) (em : μ.get n = some (.lst ds)) : ∃ vs, H a = some (.lst vs) ∧ Reps K ρ H ds vs := by
  obtain ⟨a', e1, vs, hv, rs⟩ := S.obj n _ em
  rw [ea] at e1
  cases e1
  exact ⟨vs, hv, rs⟩
/-- a list's object, written -/
theorem written {K : PySem.W.Frag} {ρ : List Addr} {H : Hp} {μ : Sto} {n : Nat} {ds es : List D} {a : Addr} {ws : List V} (S : Sim K ρ H μ) (em : μ.get n = some (.lst ds)) (ea : ρ[n]? = some a) (r : Reps K ρ H es ws) :
    Ext K ρ H ρ (upd H a (.lst ws)) ∧ Sim K ρ (upd H a (.lst ws)) (μ.put n (.lst es)) := by
  have xw := Ext.write (u := .lst ws) S em ea trivial
  exact ⟨xw, Sim.write (u := .lst ws) (b' := .lst es) S em ea ⟨ws, upd_same, Reps.ext xw _ _ r⟩⟩
def nameB : Expr → Bool
  | .Name _ _ => true
  | .Subscript _ _ _ => true
  | _ => false
theorem nameB_base {o : Expr} (h : nameB o = true) (x : Str) (env : Env) : attributeBase o x env (eval o env) = eval o env := by
  cases o <;> first | rfl | cases h
theorem few1 {e : Expr} (h : starB e = false) (env : Env) (cp : Pos) : ((backTo cp (starEach [e] env)).all (fun x => !x.1) && (backToKw cp (keywordEach [] env)).all (fun x => x.1.isSome)
      && decide ([e].length + ([] : List Keyword).length + (if ([] : List Keyword).isEmpty then 0 else 1) < 30)) = true := by
  rw [star_of h]
  rfl
theorem objL_some {μ : Sto} {d : D} (h : objL μ d = true) : ∃ n ds, d = .obj n ∧ μ.get n = some (.lst ds) := by
  unfold objL at h
  split at h
  · rename_i n
    split at h
    · rename_i ds e
      exact ⟨n, ds, rfl, e⟩
    · cases h
  · cases h
theorem ps_mtI {nm : Str} {id : String} {r : V → List V → Hp → VK → Prop} {g : Sto → D → D → Option Sto} {o e : Expr} {fo fe : Dn} {ap cp : Pos} (slot : Slot "list" nm id) (hty : typeOf (.builtin id) = pure (.type "method_descriptor")) (hm : MtR X id r) (ho : PE X o (tI X.K W fo)) (he : PE X e (tI X.K W fe)) (hb : nameB o = true) (hs : starB e = false) (hl : (ap.endLine == cp.line) = true)
    (hg : ∀ (ρ : List Addr) (H : Hp) (μ μ' : Sto) (x v : D) (xv vv : V) (Q : VK), Sim X.K ρ H μ → Rep X.K ρ H x xv → Rep X.K ρ H v vv → g μ x v = some μ' → (∀ H', Ext X.K ρ H ρ H' → Sim X.K ρ H' μ' → Q .non H') → r xv [vv] H Q) : PS X (.Expr (.Call (.Attribute o nm ap) [e] [] cp) pos) (tS X.K W (appS g fo fe)) := by
  have pa : PA X [e] (tIa X.K W (consS fe nilS)) := pa_consI he pa_nilI (star_of hs _ _)
  refine ps_imp (ps_expr (pe_bm PySem.F.plainAttrs_list slot hty hm ho pa (nameB_base hb _ _) (few1 hs _ _) hl (star_of hs _ _) rfl) (by rfl)) fun D σ H ⟨env, ρ, μ, er, S, h⟩ => ?_
  refine (goS (R := Rep X.K) er S h).mono fun ov H1 ⟨ρ1, μ1, od, x1, S1, r1, q1⟩ => ?_
  by_cases hL : objL μ1 od = true
  · rw [if_pos hL] at q1
    obtain ⟨n, ds, rfl, em⟩ := objL_some hL
    obtain ⟨a, rfl, ea⟩ := rep_obj r1
    obtain ⟨vs, hv, _⟩ := obj_lst S1 ea em
    refine ⟨.inl ⟨rfl, vs, .of hv⟩, ?_⟩
    have er1 := er.ext x1
    refine ⟨env, ρ1, μ1, er1, S1, ?_⟩
    show Fin (Reps X.K) (fun c dx H' => W c dx σ H') X.K ρ1 H1 ((fe env μ1).bind fun d μ => (Out.ok [] μ).bind fun ds μ => .ok (d :: ds) μ) _
    cases ee : fe env μ1 with
    | no => rw [ee] at q1; exact (show False from q1).elim
    | exc c0 d0 μ0 =>
      rw [ee] at q1
      exact fun ρ2 H2 dx v x s r z => q1 ρ2 H2 (.ex (.ref (He.ga X.K c0)) (some dx) σ) x s ⟨er1.ext x, rfl, dx, v, rfl, z, r⟩
    | ok d2 μ2 =>
      rw [ee] at q1
      intro ρ2 H2 vs2 x2 S2 rs2
      obtain ⟨v, rfl, rv⟩ := reps1 rs2
      have q2 : Fin (rF X.K) nW X.K ρ1 H1 (match g μ2 (.obj n) d2 with | some μ' => .ok (.nx env) μ' | none => .no) (qD W D) := q1
      cases eg : g μ2 (.obj n) d2 with
      | none => rw [eg] at q2; exact (show False from q2).elim
      | some μ' =>
        rw [eg] at q2
        exact hg ρ2 H2 μ2 μ' _ _ _ _ _ S2 (r1.ext x2) rv eg fun H' xe S' => nowF (g := .nx σ) (Fin.ext xe (Fin.ext x2 q2)) S' ((er1.ext x2).ext xe)
  · rw [if_neg hL] at q1; exact (show False from q1).elim
theorem app_ok : ∀ (ρ : List Addr) (H : Hp) (μ μ' : Sto) (x v : D) (xv vv : V) (Q : VK), Sim X.K ρ H μ → Rep X.K ρ H x xv → Rep X.K ρ H v vv → appD μ x v = some μ' → (∀ H', Ext X.K ρ H ρ H' → Sim X.K ρ H' μ' → Q .non H') → rAppend xv [vv] H Q := by
  intro ρ H μ μ' x v xv vv Q S rx rv e q
  unfold appD at e
  split at e
  · rename_i n
    split at e
    · rename_i ds em
      by_cases hl : ds.length < LIM
      · rw [if_pos hl] at e
        cases e
        obtain ⟨a, rfl, ea⟩ := rep_obj rx
        obtain ⟨vs, hv, rs⟩ := obj_lst S ea em
        obtain ⟨xw, Sw⟩ := written S em ea (rs.append (.cons rv .nil))
        exact ⟨a, vs, vv, rfl, rfl, hv, lim_lt (by rw [rs.length]; exact hl), q _ xw Sw⟩
      · rw [if_neg hl] at e; cases e
    · cases e
  · cases e
def rExtendS (K : PySem.W.Frag) : V → List V → Hp → VK → Prop := fun x vs H Q => ∃ l b xs zs, x = .ref l ∧ vs = [.ref b] ∧ H l = some (.lst xs) ∧ (H b = some (.lst zs) ∨ RoL K H b zs) ∧ xs.length + zs.length ≤ sizeLine ∧ Q .non (upd H l (.lst (xs ++ zs)))
theorem mt_extendS : MtR X "list.extend" (rExtendS X.K) := by
  intro pins s σ H x vs v us Q I rx rv h
  obtain ⟨l, b, xs, zs, rfl, rfl, hH, hB, hz, q⟩ := h
  cases rx
  obtain ⟨u, rfl, ru⟩ := rv.one
  cases ru
  obtain ⟨z, its, n, r, hl, e⟩ := I.lstM hH
  obtain ⟨its2, n2, r2, hl2, e2⟩ : ∃ (its2 : List Value) (n2 : Nat), Vals zs its2 ∧ zs.length = its2.length ∧ s.heap.get? b = some { cls := .type "list", data := .seq its2.toArray n2 } := by
    rcases hB with hB | ⟨o, hB⟩ | ⟨o, its, n, h1, h2, h3, h4, h5, h6, h7⟩
    · obtain ⟨_, its2, n2, r2, hl2, e2⟩ := I.lstM hB
      exact ⟨its2, n2, r2, hl2, e2⟩
    · obtain ⟨e0, _, its2, n2, r2, e2⟩ := I.hok b _ hB
      exact ⟨its2, n2, r2, r2.length, e2⟩
    · have e0 := I.kIn b o h1
      rw [h7] at e0
      exact ⟨its.toList, n, h6, h6.length, e0⟩
  have hsz : its.toArray.size + its2.toArray.size ≤ sizeLine := by rw [List.size_toArray, List.size_toArray]; omega
  have hlong : ¬ (!its.toArray.isEmpty && Builtin.List.listTooLong (its.toArray.size + its2.toArray.size)) = true := by
    rw [notLongL hsz, Bool.and_false]
    exact Bool.false_ne_true
  refine call_meets PySem.F.slot_list_extend ⟨_, e, rfl⟩ PySem.F.entry_list_extend (PySem.F.args_list_extend_2 _ _)
    (AutoSeq1.list_extend_list_list_0 l its.toArray n b its2.toArray n2 hlong (by rw [List.size_toArray]; omega) (by omega)) ⟨e, e2, ?_⟩
  refine ⟨.non, _, I.lset (its' := its ++ its2) hH e (by simp) (r.append r2) ?_, rfl, q⟩
  rw [List.length_append]
  omega
theorem exd_ok : ∀ (ρ : List Addr) (H : Hp) (μ μ' : Sto) (x v : D) (xv vv : V) (Q : VK), Sim X.K ρ H μ → Rep X.K ρ H x xv → Rep X.K ρ H v vv → exdD μ x v = some μ' → (∀ H', Ext X.K ρ H ρ H' → Sim X.K ρ H' μ' → Q .non H') → rExtendS X.K xv [vv] H Q := by
  intro ρ H μ μ' x v xv vv Q S rx rv e q
  unfold exdD at e
  split at e
  · rename_i n
    split at e
    · rename_i ds em
      obtain ⟨a, rfl, ea⟩ := rep_obj rx
      obtain ⟨vs, hv, rs⟩ := obj_lst S ea em
      split at e
      · rename_i es
        by_cases hl : ds.length + es.length ≤ LIM
        · rw [if_pos hl] at e
          cases e
          obtain ⟨b, us, rfl, hu, ru⟩ := rep_rol rv
          obtain ⟨xw, Sw⟩ := written S em ea (rs.append ru)
          exact ⟨a, b, vs, us, rfl, rfl, hv, .inr hu, lim_le (by rw [rs.length, ru.length]; exact hl), q _ xw Sw⟩
        · rw [if_neg hl] at e; cases e
      · rename_i m
        split at e
        · rename_i es em2
          by_cases hl : ds.length + es.length ≤ LIM
          · rw [if_pos hl] at e
            cases e
            obtain ⟨b, rfl, eb⟩ := rep_obj rv
            obtain ⟨us, hu, ru⟩ := obj_lst S eb em2
            obtain ⟨xw, Sw⟩ := written S em ea (rs.append ru)
            exact ⟨a, b, vs, us, rfl, rfl, hv, .inl hu, lim_le (by rw [rs.length, ru.length]; exact hl), q _ xw Sw⟩
          · rw [if_neg hl] at e; cases e
        · cases e
      · cases e
    · cases e
  · cases e
theorem ps_raiI {gi : Gi} {cl : Cl} {k : Nat} {x : Str} {e : Expr} {f : Dn} {p p2 : Pos} (hc : X.calm = true) (tk : Takes X W) (G : GOk gi cl k X) (hr : Room 2 X.A) (hg : Gl X x) (hx : x ∈ gi.ers) (hd : (x == ("__debug__" : Str)) = false) (he : PE X e (tI X.K W f)) (hs : starEach [e] X.env = (false, eval e X.env) :: starEach [] X.env) :
    PS X (.Raise (some (.Call (.Name x p) [e] [] p2)) none pos) (tS X.K W (raiS x f)) := by
  obtain ⟨hm, E⟩ := G.ers x hx
  obtain ⟨fI, D, cc, cda, fd, T, F, iC, tI', hb⟩ := E.ex
  refine ps_imp (ps_raise hc tk (pmk_err T F iC tI' hb hr hg hm (G.sup fun z => by rw [z] at hx; cases hx) he hs hd)) fun D σ H ⟨env, ρ, μ, er, S, h⟩ => (goS (R := Rep X.K) er S h).mono fun v H1 ⟨ρ1, μ1, d, x1, S1, r1, q1⟩ => fun dx hn => ?_
  have x2 : Ext X.K ρ1 H1 ρ1 (upd H1 dx (.xd [("value", v)])) := Ext.new hn
  exact q1 ρ1 _ (.ex (.ref (He.ga X.K x)) (some dx) σ) x2 (S1.new hn) ⟨(er.ext x1).ext x2, rfl, dx, v, rfl, upd_same, r1.ext x2⟩
theorem ps_droI {e : Expr} {f : Dn} (he : PE X e (tI X.K W f)) (hs : compB e = false) : PS X (.Expr e pos) (tS X.K W (droS f)) :=
  ps_imp (ps_expr he (nosw hs _ _ _)) fun D σ H ⟨env, ρ, μ, er, S, h⟩ => (goS (R := Rep X.K) er S h).mono fun v H1 ⟨ρ1, μ1, d, x1, S1, r1, q1⟩ => nowF (g := .nx σ) q1 S1 (er.ext x1)
theorem ps_retI {e : Expr} {f : Dn} (he : PE X e (tI X.K W f)) : PS X (.Return (some e) pos) (tS X.K W (retS f)) :=
  ps_imp (ps_ret he) fun D σ H ⟨env, ρ, μ, er, S, h⟩ => (goS (R := Rep X.K) er S h).mono fun v H1 ⟨ρ1, μ1, d, x1, S1, r1, q1⟩ => nowF (g := .rt v) q1 S1 r1
theorem ps_ifI {t : Expr} {a b : List Stmt} {tt : Dt} {fa fb : Dd} (ht : PT X t (tIb X.K W tt)) (ha : PSs X a (tS X.K W fa)) (hb : PSs X b (tS X.K W fb)) : PS X (.If t a b pos) (tS X.K W (ifeS tt fa fb)) :=
  ps_imp (ps_if ht ha hb) fun D σ H ⟨env, ρ, μ, er, S, h⟩ => (goS (R := rB) er S h).mono fun k H1 ⟨ρ1, μ1, d, x1, S1, r1, q1⟩ => by
    subst r1
    cases d with
    | true => exact ⟨env, ρ1, μ1, er.ext x1, S1, q1⟩
    | false => exact ⟨env, ρ1, μ1, er.ext x1, S1, q1⟩
theorem setD_some {μ μ' : Sto} {o i v : D} (h : setD μ o i v = some μ') : ∃ n k ds j, o = .obj n ∧ i = .int k ∧ μ.get n = some (.lst ds) ∧ ixN ds.length k = some j ∧ μ' = μ.put n (.lst (ds.set j v)) := by
  unfold setD at h
  split at h
  · rename_i n k
    split at h
    · rename_i ds em
      cases ej : ixN ds.length k with
      | none => rw [ej] at h; cases h
      | some j => rw [ej] at h; cases h; exact ⟨n, k, ds, j, rfl, rfl, em, ej, rfl⟩
    · cases h
  · cases h
theorem ps_subI {o i e : Expr} {fo fi fe : Dn} {pt : Pos} (ho : PE X o (tI X.K W fo)) (hi : PE X i (tI X.K W fi)) (he : PE X e (tI X.K W fe)) (pl : plainB i = true) : PS X (.Assign [.Subscript o i pt] e pos) (tS X.K W (subS fo fi fe)) := by
  have as : ∀ v, assign (.Subscript o i pt) X.env v = (do
      let ov ← holding [v] (eval o X.env)
      let iv ← holding [v, ov] (eval i X.env)
      standAt pt
      holding [v, ov, iv] (setItem ov iv v)
      release [v, ov, iv] []) := by
    intro v
    cases i <;> first | rfl | cases pl
  have hsw : swapsWithSole [.Subscript o i pt] e pos.line X.env = pure false := by
    show swapsWith e (some (.Subscript o i pt)) pos.line X.env = pure false
    cases e <;> rfl
  refine ps_imp (ps_asg he (pg_sub ho hi set_list as) hsw (by cases e <;> rfl) (by rfl)) fun D σ H ⟨env, ρ, μ, er, S, h⟩ => ?_
  refine (goS (R := Rep X.K) er S h).mono fun v H1 ⟨ρ1, μ1, d, x1, S1, r1, q1⟩ => ?_
  refine (goS (R := Rep X.K) (er.ext x1) S1 q1).mono fun ov H2 ⟨ρ2, μ2, od, x2, S2, r2, q2⟩ => ?_
  refine (goS (R := Rep X.K) ((er.ext x1).ext x2) S2 q2).mono fun iv H3 ⟨ρ3, μ3, kd, x3, S3, r3, q3⟩ => ?_
  cases es : setD μ3 od kd d with
  | none => rw [es] at q3; exact (show False from q3).elim
  | some μ' =>
    rw [es] at q3
    obtain ⟨n, kk, ds, j, rfl, rfl, em, ej, rfl⟩ := setD_some es
    obtain ⟨a, rfl, ea⟩ := rep_obj r2
    obtain ⟨a', e1, vs, e2, rs⟩ := S3.obj n _ em
    have ea3 := x3.get ea
    rw [ea3] at e1
    cases e1
    have xw := Ext.write (u := .lst (vs.set j v)) S3 em ea3 trivial
    have rv : Rep X.K ρ3 H3 d v := (r1.ext x2).ext x3
    have Sw := Sim.write (u := .lst (vs.set j v)) (b' := .lst (ds.set j d)) S3 em ea3 ⟨_, upd_same, Reps.ext xw _ _ (rs.set j rv)⟩
    refine ⟨a, vs, kk, j, rfl, rep_int r3, e2, by rw [rs.length]; exact ej, ?_⟩
    exact nowF (g := .nx σ) (Fin.ext xw q3) Sw ((((er.ext x1).ext x2).ext x3).ext xw)
end

/-! ### the checker -/
/-- a target that is no local name: the tuple is made and taken apart -/
def farB (c : Ck) : Expr → Bool
  | .Name x _ => !decide (c.sc.names.lookup x = some .local)
  | _ => true
def swC (c : Ck) : Expr → Expr → Bool
  | .Tuple ts _ _, .Tuple _ _ _ => ts.any (farB c)
  | _, _ => false
theorem filter_short {α β : Type} {f : α → Option β} : ∀ {l : List α}, (l.any fun e => (f e).isNone) = true → (l.filterMap f).length < l.length
  | [], h => by cases h
  | a :: l, h => by
    have le : (l.filterMap f).length ≤ l.length := List.length_filterMap_le _ _
    rw [List.any_cons] at h
    rw [List.filterMap_cons]
    cases e : f a with
    | none => simp only [List.length_cons]; omega
    | some b =>
      rw [e] at h
      have := filter_short (l := l) (by simpa using h)
      simp only [List.length_cons]
      omega
theorem swC_sole {c : Ck} {t v : Expr} (h : swC c t v = true) (l : Nat) (env : Env) : swapsWithSole [t] v l env = pure false := by
  cases t with
  | Tuple ts k p =>
    show swapsWith v (some (.Tuple ts k p)) l env = pure false
    cases v <;> rfl
  | _ => cases h
theorem swC_none {c : Ck} {t v : Expr} {env : Env} (hs : env.scope = c.sc) (h : swC c t v = true) : swappedStores [t] v env = pure none := by
  cases t with
  | Tuple ts k p =>
    cases v with
    | Tuple vs k2 p2 =>
      unfold swC at h
      unfold swappedStores
      simp only
      split
      · rfl
      · split
        · rfl
        · have key : ∀ f : Expr → Option Str, (∀ e, farB c e = true → f e = none) → ((ts.filterMap f).length != ts.length) = true := by
            intro f hf
            have := filter_short (f := f) (l := ts) (by
              obtain ⟨e, he, q⟩ := List.any_eq_true.mp h
              exact List.any_eq_true.mpr ⟨e, he, by rw [hf e q]; rfl⟩)
            exact bne_iff_ne.mpr (by omega)
          rw [key]
          · simp
          · intro e he
            cases e with
            | Name x q =>
              have hx : ¬ env.kindOf x = some .local := by
                show ¬ env.scope.names.lookup x = some .local
                rw [hs]
                unfold farB at he
                simpa using he
              simp only
              rw [if_neg]
              intro z
              rw [Bool.and_eq_true] at z
              exact hx (by simpa using z.1)
            | _ => rfl
    | _ => rfl
  | _ => cases h
def tpB : Tg → Bool
  | .tp _ => true
  | _ => false
theorem tpB_ok {t : Tg} (h : tpB t = true) : ∀ i, t ≠ .nm i := by
  intro i e
  subst e
  cases h
def isLcm : E → Bool
  | .lcm _ _ _ _ _ => true
  | _ => false
mutual
def ckS (gi : Gi) (c : Ck) (p : Stmt) : S → Bool
  | .set i e => match p with
    | .Assign [.Name x _] v _ => decide (c.N[i]? = some x) && c.loc x && ckE gi c v e && (!compB v || decide (c.sc.names.lookup x ≠ some .local))
    | _ => false
  | .setLc i (.lcm t s cd e own) => match p with
    | .Assign [.Name x px] (.ListComp elt [⟨tg, it, ifs, k⟩] scope pc) _ => decide (c.N[i]? = some x) && decide (c.sc.names.lookup x = some .local) && (px.line == pc.line) && !(scope.names.any fun (n, k) => n == x && (k == .local || k == .cell)) &&
        decide (k = 0) && L2.blkC c.N c.sc scope own && ckT ⟨c.N, relS scope c.sc, false⟩ tg t && decide (∀ j ∈ t.slots, j ∈ own.map (·.2)) && ckI gi c it (tupB tg) s && !setB it &&
        ckIfs gi ⟨c.N, relS scope c.sc, false⟩ ifs cd && ckE gi ⟨c.N, relS scope c.sc, false⟩ elt e
    | _ => false
  | .setLc i (.mlc t s cd e own) => match p with
    | .Assign [.Name x px] (.ListComp elt [⟨tg, it, ifs, k⟩] scope pc) _ => decide (c.N[i]? = some x) && decide (c.sc.names.lookup x = some .local) && (px.line == pc.line) && !(scope.names.any fun (n, k) => n == x && (k == .local || k == .cell)) &&
        decide (k = 0) && L2.blkC c.N c.sc scope own && ckT ⟨c.N, relS scope c.sc, false⟩ tg t && decide (∀ j ∈ t.slots, j ∈ own.map (·.2)) && ckI gi c it (tupB tg) s && !setB it &&
        ckIfs gi ⟨c.N, relS scope c.sc, false⟩ ifs cd && ckE gi ⟨c.N, relS scope c.sc, false⟩ elt e
    | _ => false
  | .setLc _ _ => false
  | .tgt t e => match p with
    | .Assign [tg] v _ => ckT c tg t && tpB t && ckE gi c v e && (swB tg v || swC c tg v)
    | _ => false
  | .par i j a b => match p with
    | .Assign [.Tuple [.Name x px, .Name y py] _ _] (.Tuple [l, r] _ _) _ => decide (c.N[i]? = some x) && decide (c.N[j]? = some y) && decide (c.sc.names.lookup x = some .local) && decide (c.sc.names.lookup y = some .local) && decide (i ≠ j) &&
        ckE gi c l a && ckE gi c r b && !starB l && !starB r && (py.line == px.line) && decide (x ≠ y) && !([l, r].all (foldedForSure 8)) && !([l, r].all (constantsAlone 8))
    | _ => false
  | .dro e => match p with
    | .Expr v _ => ckE gi c v e && !compB v
    | _ => false
  | .rai x e => match p with
    | .Raise (some (.Call (.Name y _) [l] [] _)) none _ => decide (y = x) && c.gl y && decide (y ∈ gi.ers) && !(y == ("__debug__" : Str)) && ckE gi c l e && !starB l && c.isDef
    | _ => false
  | .ret e => match p with
    | .Return (some v) _ => ckE gi c v e
    | _ => false
  | .retN => match p with
    | .Return none _ => true
    | _ => false
  | .pas => match p with
    | .Pass _ => true
    | _ => false
  | .brk => match p with
    | .Break _ => true
    | _ => false
  | .ctn => match p with
    | .Continue _ => true
    | _ => false
  | .ife t a b => match p with
    | .If x y z _ => ckE gi c x t && ckSs gi c y a && ckSs gi c z b
    | _ => false
  | .wil t b => match p with
    | .While x y [] _ => ckE gi c x t && ckSs gi c y b
    | _ => false
  | .foR t s b => match p with
    | .For tg it y [] _ => ckT c tg t && ckI gi c it (tupB tg) s && !setB it && ckSs gi c y b
    | _ => false
  | .sub a i e => match p with
    | .Assign [.Subscript x y _] v _ => ckE gi c x a && ckE gi c y i && ckE gi c v e && plainB y
    | _ => false
  | .nev => true
  | .par3 i j l a b d => match p with
    | .Assign [.Tuple [.Name x px, .Name y py, .Name z pz] _ _] (.Tuple [u, v, w] _ _) _ => decide (c.N[i]? = some x) && decide (c.N[j]? = some y) && decide (c.N[l]? = some z) && decide (c.sc.names.lookup x = some .local) && decide (c.sc.names.lookup y = some .local) && decide (c.sc.names.lookup z = some .local) &&
        decide (i ≠ j ∧ i ≠ l ∧ j ≠ l) && ckE gi c u a && ckE gi c v b && ckE gi c w d && !starB u && !starB v && !starB w && (py.line == px.line) && (pz.line == px.line) && decide (x ≠ y ∧ x ≠ z ∧ y ≠ z) && !([u, v, w].all (foldedForSure 8)) && !([u, v, w].all (constantsAlone 8))
    | _ => false
  | .app o e => match p with
    | .Expr (.Call (.Attribute x nm ap) [v] [] cp) _ => decide (nm = ("append" : Str)) && ckE gi c x o && ckE gi c v e && nameB x && !starB v && (ap.endLine == cp.line)
    | _ => false
  | .exd o e => match p with
    | .Expr (.Call (.Attribute x nm ap) [v] [] cp) _ => decide (nm = ("extend" : Str)) && ckE gi c x o && ckE gi c v e && nameB x && !starB v && (ap.endLine == cp.line)
    | _ => false
def ckSs (gi : Gi) (c : Ck) (p : List Stmt) : List S → Bool
  | [] => match p with
    | [] => true
    | _ => false
  | s :: ss => match p with
    | q :: qs => ckS gi c q s && ckSs gi c qs ss
    | _ => false
end
section
variable {gi : Gi} {cl : Cl} {k : Nat}
theorem pss_consI {X : Cx} {W : WX} {q : Stmt} {qs : List Stmt} {f g : Dd} (h1 : PS X q (tS X.K W f)) (h2 : PSs X qs (tS X.K W g)) : PSs X (q :: qs) (tS X.K W (seqS f g)) :=
  pss_imp (pss_cons h1 h2) fun D σ H ⟨env, ρ, μ, er, S, h⟩ => goB er S h fun fl g' ρ2 H2 μ2 x2 S2 r q => by
    cases fl <;> cases g' <;> first | exact (show False from r).elim | skip
    case nx.nx env2 σ2 => exact ⟨env2, ρ2, μ2, r, S2, q⟩
    case rt.rt d v => exact nowF (D := D) (g := .rt v) q S2 r
    case bk.bk env2 σ2 => exact nowF (D := D) (g := .bk σ2) q S2 r
    case ct.ct env2 σ2 => exact nowF (D := D) (g := .ct σ2) q S2 r
    case ex.ex c d env2 cv dx σ2 => exact nowF (D := D) (g := .ex cv dx σ2) q S2 r
mutual
theorem sS (c : Ck) (hk : c.sc.kind = .function) : ∀ (t : S) (p : Stmt), ckS gi c p t = true → ∀ (X : Cx) (W : WX), Ar gi cl k c X W → PassesOwn (model X.prog X.w) X.A X.env X.xe → PS X p (tS X.K W (exS cl t))
  | .set i e, p, h, X, W, A, pw => by
    unfold ckS at h
    split at h
    · obtain ⟨h, h4⟩ := bq h
      obtain ⟨h, h3⟩ := bq h
      obtain ⟨h1, h2⟩ := bq h
      unfold exS
      exact ps_setI A.ck (of_decide_eq_true h1) h2 (sE e c _ h3 X W A).1 ((Bool.or_eq_true_iff.mp h4).imp not_true of_decide_eq_true)
    · cases h
  | .setLc i e, p, h, X, W, A, pw => by
    cases e with
    | lcm t s cd e own =>
      unfold ckS at h
      split at h
      · obtain ⟨h, h12⟩ := bq h
        obtain ⟨h, h11⟩ := bq h
        obtain ⟨h, h10⟩ := bq h
        obtain ⟨h, h9⟩ := bq h
        obtain ⟨h, h8⟩ := bq h
        obtain ⟨h, h7⟩ := bq h
        obtain ⟨h, h6⟩ := bq h
        obtain ⟨h, h5⟩ := bq h
        obtain ⟨h, h4⟩ := bq h
        obtain ⟨h, h3⟩ := bq h
        obtain ⟨h1, h2⟩ := bq h
        have ek := of_decide_eq_true h5
        subst ek
        unfold exS den
        exact ps_setLcI A.ck hk (of_decide_eq_true h1) (of_decide_eq_true h2) h3 (not_true h4) (sI s c _ _ h9 X W A) (by rw [A.ck.N, A.ck.sc]; exact blkOk_by h6) (of_decide_eq_true h8) (fun s H C cs fp => pg_I (A.ck.blk s H C cs fp) t _ h7)
          (fun s H C cs fp => sIfs cd _ _ h11 _ _ ⟨A.ck.blk s H C cs fp, A.gok.blk .., takesF _ _ _ _ _, fun z => nomatch z⟩) (fun s H C cs fp => (sE e _ _ h12 _ _ ⟨A.ck.blk s H C cs fp, A.gok.blk .., takesF _ _ _ _ _, fun z => nomatch z⟩).1) (noset (not_true h10) _)
      · cases h
    | mlc t s cd e own =>
      unfold ckS at h
      split at h
      · obtain ⟨h, h12⟩ := bq h
        obtain ⟨h, h11⟩ := bq h
        obtain ⟨h, h10⟩ := bq h
        obtain ⟨h, h9⟩ := bq h
        obtain ⟨h, h8⟩ := bq h
        obtain ⟨h, h7⟩ := bq h
        obtain ⟨h, h6⟩ := bq h
        obtain ⟨h, h5⟩ := bq h
        obtain ⟨h, h4⟩ := bq h
        obtain ⟨h, h3⟩ := bq h
        obtain ⟨h1, h2⟩ := bq h
        have ek := of_decide_eq_true h5
        subst ek
        unfold exS den
        exact ps_setMcI A.ck hk (of_decide_eq_true h1) (of_decide_eq_true h2) h3 (not_true h4) (sI s c _ _ h9 X W A) (by rw [A.ck.N, A.ck.sc]; exact blkOk_by h6) (of_decide_eq_true h8) (fun s H C cs fp => pg_I (A.ck.blk s H C cs fp) t _ h7)
          (fun s H C cs fp => sIfs cd _ _ h11 _ _ ⟨A.ck.blk s H C cs fp, A.gok.blk .., takesF _ _ _ _ _, fun z => nomatch z⟩) (fun s H C cs fp => (sE e _ _ h12 _ _ ⟨A.ck.blk s H C cs fp, A.gok.blk .., takesF _ _ _ _ _, fun z => nomatch z⟩).1) (noset (not_true h10) _)
      · cases h
    | _ => unfold ckS at h; cases h
  | .tgt t e, p, h, X, W, A, pw => by
    unfold ckS at h
    split at h
    · obtain ⟨h, h4⟩ := bq h
      obtain ⟨h, h3⟩ := bq h
      obtain ⟨h1, h2⟩ := bq h
      unfold exS
      rcases Bool.or_eq_true_iff.mp h4 with h4 | h4
      · exact ps_tgtI A.ck (sE e c _ h3 X W A).1 h1 (tpB_ok h2) (swB_sole h4 _ _) (swB_none h4 _)
      · exact ps_tgtI A.ck (sE e c _ h3 X W A).1 h1 (tpB_ok h2) (swC_sole h4 _ _) (swC_none A.ck.sc h4)
    · cases h
  | .par i j a b, p, h, X, W, A, pw => by
    unfold ckS at h
    split at h
    · obtain ⟨h, h13⟩ := bq h
      obtain ⟨h, h12⟩ := bq h
      obtain ⟨h, h11⟩ := bq h
      obtain ⟨h, h10⟩ := bq h
      obtain ⟨h, h9⟩ := bq h
      obtain ⟨h, h8⟩ := bq h
      obtain ⟨h, h7⟩ := bq h
      obtain ⟨h, h6⟩ := bq h
      obtain ⟨h, h5⟩ := bq h
      obtain ⟨h, h4⟩ := bq h
      obtain ⟨h, h3⟩ := bq h
      obtain ⟨h1, h2⟩ := bq h
      unfold exS
      exact ps_parI A.ck hk (of_decide_eq_true h1) (of_decide_eq_true h2) (of_decide_eq_true h3) (of_decide_eq_true h4) (of_decide_eq_true h5) (sE a c _ h6 X W A).1 (sE b c _ h7 X W A).1 (not_true h8) (not_true h9) h10 (of_decide_eq_true h11) (not_true h12) (not_true h13)
    · cases h
  | .rai x e, p, h, X, W, A, pw => by
    unfold ckS at h
    split at h
    · obtain ⟨h, h7⟩ := bq h
      obtain ⟨h, h6⟩ := bq h
      obtain ⟨h, h5⟩ := bq h
      obtain ⟨h, h4⟩ := bq h
      obtain ⟨h, h3⟩ := bq h
      obtain ⟨h1, h2⟩ := bq h
      have ey := of_decide_eq_true h1
      subst ey
      unfold exS
      exact ps_raiI A.ck.calm A.tk A.gok ((A.cod h7).room.mono (by omega)) (Ck.gl_ok A.ck h2) (of_decide_eq_true h3) (not_true h4) (sE e c _ h5 X W A).1 (star_of (not_true h6) _ _)
    · cases h
  | .dro e, p, h, X, W, A, pw => by
    unfold ckS at h
    split at h
    · obtain ⟨h1, h2⟩ := bq h
      unfold exS
      exact ps_droI (sE e c _ h1 X W A).1 (not_true h2)
    · cases h
  | .ret e, p, h, X, W, A, pw => by
    unfold ckS at h
    split at h
    · unfold exS
      exact ps_retI (sE e c _ h X W A).1
    · cases h
  | .retN, p, h, X, W, A, pw => by
    unfold ckS at h
    split at h
    · unfold exS
      exact ps_imp ps_retN fun D σ H ⟨env, ρ, μ, er, S, h⟩ => nowF (g := .rt .non) h S (show Rep X.K ρ H .non .non from mk_non)
    · cases h
  | .pas, p, h, X, W, A, pw => by
    unfold ckS at h
    split at h
    · unfold exS
      exact ps_imp ps_pass fun D σ H ⟨env, ρ, μ, er, S, h⟩ => nowF (g := .nx σ) h S er
    · cases h
  | .brk, p, h, X, W, A, pw => by
    unfold ckS at h
    split at h
    · unfold exS
      exact ps_imp ps_break fun D σ H ⟨env, ρ, μ, er, S, h⟩ => nowF (g := .bk σ) h S er
    · cases h
  | .ctn, p, h, X, W, A, pw => by
    unfold ckS at h
    split at h
    · unfold exS
      exact ps_imp ps_continue fun D σ H ⟨env, ρ, μ, er, S, h⟩ => nowF (g := .ct σ) h S er
    · cases h
  | .ife t a b, p, h, X, W, A, pw => by
    unfold ckS at h
    split at h
    · obtain ⟨h, h3⟩ := bq h
      obtain ⟨h1, h2⟩ := bq h
      unfold exS
      exact ps_ifI (sE t c _ h1 X W A).2.1 (sSs c hk a _ h2 X W A pw) (sSs c hk b _ h3 X W A pw)
    · cases h
  | .wil t b, p, h, X, W, A, pw => by
    unfold ckS at h
    split at h
    · obtain ⟨h1, h2⟩ := bq h
      unfold exS
      exact ps_imp (ps_while pw (sE t c _ h1 X W A).2.1 (sSs c hk b _ h2 X W A pw)) fun D σ H z => whl_reads z
    · cases h
  | .foR t s b, p, h, X, W, A, pw => by
    unfold ckS at h
    split at h
    · obtain ⟨h, h3⟩ := bq h
      obtain ⟨h, h4⟩ := bq h
      obtain ⟨h1, h2⟩ := bq h
      unfold exS
      exact ps_imp (ps_for pw A.ck.calm (sI s c _ _ h2 X W A) (pg_I A.ck t _ h1) (sSs c hk b _ h3 X W A pw) (noset (not_true h4) _)) fun D σ H z => for_reads z
    · cases h
  | .sub a i e, p, h, X, W, A, pw => by
    unfold ckS at h
    split at h
    · obtain ⟨h, h4⟩ := bq h
      obtain ⟨h, h3⟩ := bq h
      obtain ⟨h1, h2⟩ := bq h
      unfold exS
      exact ps_subI (sE a c _ h1 X W A).1 (sE i c _ h2 X W A).1 (sE e c _ h3 X W A).1 h4
    · cases h
  | .nev, p, h, X, W, A, pw => by
    unfold exS
    exact ps_imp ps_never fun D σ H ⟨env, ρ, μ, er, S, h⟩ => h
  | .par3 i j l a b d, p, h, X, W, A, pw => by
    unfold ckS at h
    split at h
    · obtain ⟨h, h18⟩ := bq h
      obtain ⟨h, h17⟩ := bq h
      obtain ⟨h, h16⟩ := bq h
      obtain ⟨h, h15⟩ := bq h
      obtain ⟨h, h14⟩ := bq h
      obtain ⟨h, h13⟩ := bq h
      obtain ⟨h, h12⟩ := bq h
      obtain ⟨h, h11⟩ := bq h
      obtain ⟨h, h10⟩ := bq h
      obtain ⟨h, h9⟩ := bq h
      obtain ⟨h, h8⟩ := bq h
      obtain ⟨h, h7⟩ := bq h
      obtain ⟨h, h6⟩ := bq h
      obtain ⟨h, h5⟩ := bq h
      obtain ⟨h, h4⟩ := bq h
      obtain ⟨h, h3⟩ := bq h
      obtain ⟨h1, h2⟩ := bq h
      obtain ⟨n1, n2, n3⟩ := of_decide_eq_true h7
      obtain ⟨m1, m2, m3⟩ := of_decide_eq_true h16
      unfold exS
      exact ps_par3I A.ck hk (of_decide_eq_true h1) (of_decide_eq_true h2) (of_decide_eq_true h3) (of_decide_eq_true h4) (of_decide_eq_true h5) (of_decide_eq_true h6) n1 n2 n3 (sE a c _ h8 X W A).1 (sE b c _ h9 X W A).1 (sE d c _ h10 X W A).1 (not_true h11) (not_true h12) (not_true h13) h14 h15 m1 m2 m3 (not_true h17) (not_true h18)
    · cases h
  | .app o e, p, h, X, W, A, pw => by
    unfold ckS at h
    split at h
    · obtain ⟨h, h6⟩ := bq h
      obtain ⟨h, h5⟩ := bq h
      obtain ⟨h, h4⟩ := bq h
      obtain ⟨h, h3⟩ := bq h
      obtain ⟨h1, h2⟩ := bq h
      have en := of_decide_eq_true h1
      subst en
      unfold exS
      exact ps_mtI PySem.F.slot_list_append PySem.F.type_list_append mt_append (sE o c _ h2 X W A).1 (sE e c _ h3 X W A).1 h4 (not_true h5) h6 app_ok
    · cases h
  | .exd o e, p, h, X, W, A, pw => by
    unfold ckS at h
    split at h
    · obtain ⟨h, h6⟩ := bq h
      obtain ⟨h, h5⟩ := bq h
      obtain ⟨h, h4⟩ := bq h
      obtain ⟨h, h3⟩ := bq h
      obtain ⟨h1, h2⟩ := bq h
      have en := of_decide_eq_true h1
      subst en
      unfold exS
      exact ps_mtI PySem.F.slot_list_extend PySem.F.type_list_extend mt_extendS (sE o c _ h2 X W A).1 (sE e c _ h3 X W A).1 h4 (not_true h5) h6 exd_ok
    · cases h
theorem sSs (c : Ck) (hk : c.sc.kind = .function) : ∀ (t : List S) (p : List Stmt), ckSs gi c p t = true → ∀ (X : Cx) (W : WX), Ar gi cl k c X W → PassesOwn (model X.prog X.w) X.A X.env X.xe → PSs X p (tS X.K W (exSs cl t))
  | [], p, h, X, W, A, pw => by
    unfold ckSs at h
    split at h
    · unfold exSs
      exact pss_imp pss_nil fun D σ H ⟨env, ρ, μ, er, S, h⟩ => nowF (g := .nx σ) h S er
    · cases h
  | s :: ss, p, h, X, W, A, pw => by
    unfold ckSs at h
    split at h
    · obtain ⟨h1, h2⟩ := bq h
      unfold exSs
      exact pss_consI (sS c hk s _ h1 X W A pw) (sSs c hk ss _ h2 X W A pw)
    · cases h
end
end
end Rf


set_option Elab.async false
set_option linter.all false
set_option maxRecDepth 100000
set_option maxHeartbeats 2000000
/-! Rf, part J: defs by levels; a law's end. -/
namespace Rf
open PySem PySem.Spec PyProof.Rows L2

/-! ### a def of the text -/
structure Dp where
  name : Str
  N : List Str
  ps : List Str
  args : Arguments
  body : List Stmt
  sc : Scope
  code : List S
def Dp.df (d : Dp) : Df := ⟨d.name, d.N.length, d.ps.length, d.code⟩
def scB (N P : List Str) (sc : Scope) : Bool := decide (sc.kind = .function) && !sc.isCoroutine && !sc.isGenerator && decide N.Nodup && decide (N.take P.length = P) && (P.all fun x => decide (sc.names.lookup x = some .local) || decide (sc.names.lookup x = some .cell)) && sc.names.all fun y => decide (y.2 ≠ .free)
theorem scB_ok {N P : List Str} {sc : Scope} (h : scB N P sc = true) : FnScope N P sc := by
  obtain ⟨h, h7⟩ := bq h
  obtain ⟨h, h6⟩ := bq h
  obtain ⟨h, h5⟩ := bq h
  obtain ⟨h, h4⟩ := bq h
  obtain ⟨h, h3⟩ := bq h
  obtain ⟨h1, h2⟩ := bq h
  refine ⟨of_decide_eq_true h1, not_true h2, not_true h3, of_decide_eq_true h4, of_decide_eq_true h5, fun x hx => ?_, fun y hy => of_decide_eq_true (List.all_eq_true.mp h7 y hy)⟩
  rcases Bool.or_eq_true_iff.mp (List.all_eq_true.mp h6 x hx) with z | z
  · exact .inl (of_decide_eq_true z)
  · exact .inr (of_decide_eq_true z)
def Dp.ok (gi : Gi) (d : Dp) : Bool := scB d.N d.ps d.sc && ckSs { gi with cur := d.name } ⟨d.N, d.sc, true⟩ d.body d.code
def Dp.Bd (d : Dp) : Prop := ∀ (kV doc pm : Value) (an : Option Addr) (cdv ct : Value) (us : List Value), us.length = d.ps.length → bindArgs (PySem.W.fnOf d.name d.name d.args d.body d.sc .none kV doc pm an cdv ct) ⟨us, []⟩ = pure (d.ps.zip us)
abbrev Dp.At (d : Dp) (K : PySem.W.Frag) (f : Addr) (fd : FuncData) : Prop := FunD K d.name d.name d.args d.body d.sc [] [] f fd
theorem Dp.binds {d : Dp} {K : PySem.W.Frag} {f : Addr} {fd : FuncData} (F : d.At K f fd) (b : d.Bd) : Binds K fd d.ps [] := FunD.bindsN F b

/-! ### a body's run -/
theorem envStart {K : PySem.W.Frag} {ρ : List Addr} {H : Hp} {ds : List D} {vs : List V} {N : List Str} (r : Reps K ρ H ds vs) : EnvR K ρ H (ds.map some ++ List.replicate (N.length - ds.length) none) (L2.start N vs) := by
  refine ⟨?_, fun i d h => ?_⟩
  · unfold L2.start
    simp [r.length]
  · have hi : i < ds.length := by
      rcases Nat.lt_or_ge i ds.length with z | z
      · exact z
      · rw [List.getElem?_append_right (by simpa using z), List.getElem?_replicate] at h
        split at h <;> cases h
    rw [List.getElem?_append_left (by simpa using hi), List.getElem?_map] at h
    cases e : ds[i]? with
    | none => rw [e] at h; cases h
    | some d' =>
      rw [e] at h
      have ed : d' = d := Option.some.inj (Option.some.inj h)
      subst ed
      obtain ⟨v, e1, e2⟩ := r.get e
      refine ⟨v, ?_, e2⟩
      unfold L2.start
      rw [List.getElem?_append_left (by rw [List.length_map, r.length]; exact hi), List.getElem?_map, e1]
      rfl
theorem endD_fin {K : PySem.W.Frag} {ρ : List Addr} {H : Hp} {out : Out Fl} {Q : VK} {E : XK} (h : Fin (Rep K) E K ρ H (endD out) Q) : Fin (rF K) nW K ρ H out (qD (fun c dx _ H' => E c dx H') { nx := fun _ H' => Q .non H', rt := Q }) := by
  cases out with
  | no => exact h
  | exc c d μ => exact (show False from h).elim
  | ok f μ =>
    cases f with
    | nx env =>
      intro ρ1 H1 g x s r
      cases g <;> first | exact (show False from r).elim | skip
      exact h ρ1 H1 .non x s mk_non
    | rt d =>
      intro ρ1 H1 g x s r
      cases g <;> first | exact (show False from r).elim | skip
      exact h ρ1 H1 _ x s r
    | bk env => exact (show False from h).elim
    | ct env => exact (show False from h).elim
    | ex c d env =>
      intro ρ1 H1 g x s r
      cases g <;> first | exact (show False from r).elim | skip
      obtain ⟨r1, rfl, a, v, rfl, r2, r3⟩ := r
      exact h ρ1 H1 a v x s r3 r2
/-! ### behind a call, the new cells are gone -/
theorem oldOk_at {k : Nat} : ∀ {l l' : List (Option O)} {n : Nat} {a : Option O}, oldOk k l l' = true → l[n]? = some a → ∃ b, l'[n]? = some b ∧ cellOk k a b = true
  | [], _, _, _, _, e => by simp at e
  | _ :: _, [], _, _, h, _ => by cases h
  | c :: l, d :: l', n, a, h, e => by
    obtain ⟨h1, h2⟩ := bq h
    cases n with
    | zero =>
      have e' : c = a := by simpa using e
      subst e'
      exact ⟨d, rfl, h1⟩
    | succ n =>
      obtain ⟨b, e1, e2⟩ := oldOk_at (n := n) (a := a) h2 (by simpa using e)
      exact ⟨b, by simpa using e1, e2⟩
theorem sim_cut {K : PySem.W.Frag} {ρ ex : List Addr} {H H' : Hp} {μ μ' : Sto} (S : Sim K ρ H μ) (S' : Sim K (ρ ++ ex) H' μ') (h : oldOk μ.sz μ.row μ'.row = true) : Sim K ρ H' (μ'.cut μ.sz) := by
  have hl : μ.sz ≤ μ'.sz := by rw [← S.len, ← S'.len, List.length_append]; omega
  refine ⟨by rw [Sto.sz_cut, S.len]; omega, (List.nodup_append.mp S'.nd).1, fun a ha => S'.live a (List.mem_append_left _ ha), S'.tabs, fun n o e => ?_⟩
  have hn : n < μ.sz := by
    have z := Sto.get_lt e
    rw [Sto.sz_cut] at z
    omega
  rw [Sto.get_cut _ hn] at e
  obtain ⟨a, e1, ro⟩ := S'.obj n o e
  rw [List.getElem?_append_left (by rw [S.len]; exact hn)] at e1
  refine ⟨a, e1, ?_⟩
  have hr : n < μ.row.length := hn
  obtain ⟨b, e2, e3⟩ := oldOk_at h (List.getElem?_eq_getElem hr)
  have eb : b = some o := by
    have z := e
    unfold Sto.get at z
    rw [e2] at z
    exact z
  rw [eb] at e3
  rw [← S.len] at e3
  unfold cellOk at e3
  simp only at e3
  have cl : closedO ρ.length o = true := by
    rcases Bool.or_eq_true_iff.mp e3 with z | z
    · exact z
    · cases ea : μ.row[n] with
      | none => rw [ea] at z; cases z
      | some o' =>
        rw [ea] at z
        have q := sameO_eq z
        subst q
        obtain ⟨a', _, ro'⟩ := S.obj n o' (by unfold Sto.get; rw [List.getElem?_eq_getElem hr, ea]; rfl)
        exact ro'.closed
  exact ORep.front cl ro
theorem cut_fin {K : PySem.W.Frag} {ρ : List Addr} {H : Hp} {μ : Sto} {W : XW} {Q : VK} (S : Sim K ρ H μ) : ∀ {out : Out D}, Fin (Rep K) W K ρ H (cutS μ out) Q → Fin (Rep K) W K ρ H out Q
  | .no, h => h
  | .ok d μ', h => by
    intro ρ' H' v x S' r
    replace h : Fin (Rep K) W K ρ H (.ok d (if cutOk μ μ' d then μ'.cut μ.sz else μ')) Q := h
    by_cases c : cutOk μ μ' d = true
    · rw [if_pos c] at h
      obtain ⟨c1, c2⟩ := bq c
      obtain ⟨ex, rfl, _⟩ := x.pre
      rw [← S.len] at c1
      exact h ρ H' v ⟨⟨[], by simp, fun _ z => by cases z⟩, x.tup, x.frz, x.oth, x.live, x.err, x.tab⟩ (sim_cut S S' c2) (Rep.front d v c1 r)
    · rw [if_neg c] at h
      exact h ρ' H' v x S' r
  | .exc k d μ', h => by
    intro ρ' H' dx v x S' r z
    replace h : Fin (Rep K) W K ρ H (.exc k d (if cutOk μ μ' d then μ'.cut μ.sz else μ')) Q := h
    by_cases c : cutOk μ μ' d = true
    · rw [if_pos c] at h
      obtain ⟨c1, c2⟩ := bq c
      obtain ⟨ex, rfl, _⟩ := x.pre
      rw [← S.len] at c1
      exact h ρ H' dx v ⟨⟨[], by simp, fun _ z => by cases z⟩, x.tup, x.frz, x.oth, x.live, x.err, x.tab⟩ (sim_cut S S' c2) (Rep.front d v c1 r) z
    · rw [if_neg c] at h
      exact h ρ' H' dx v x S' r z
section
variable {P : Program} {w : World} {K : PySem.W.Frag} {mg : Str → Option Value} {base : Heap} {gi : Gi} {Pd : List Dp} {wf : Nat}
/-- what is known of all the defs, of the module's names -/
structure Wd (P : Program) (K : PySem.W.Frag) (mg : Str → Option Value) (gi : Gi) (Pd : List Dp) : Prop where
  defs : ∀ d ∈ Pd, mg d.name = some (.ref (He.ga K d.name)) ∧ ∃ fd, d.At K (He.ga K d.name) fd
  ok : ∀ d ∈ Pd, d.ok gi = true
  bd : ∀ d ∈ Pd, d.Bd
  fns : ∀ x ∈ gi.fns, ∃ d ∈ Pd, d.name = x
  nd : (Pd.map (·.name)).Nodup
  con : ∀ p ∈ gi.con, ∃ u v, mg p.1 = some u ∧ RelV v u ∧ ∀ ρ H, Rep K ρ H p.2 v
  fre : ∀ x ∈ gi.fre, mg x = none
  ers : ∀ x ∈ gi.ers, mg x = some (.ref (He.ga K x)) ∧ ErrOk P K x
  kit : ∀ k ∈ gi.ers, ∀ x ∈ gi.ers, PySem.W.kitOne K (.ref (He.ga K k)) (.ref (He.ga K x)) = some (decide (x = topE) || decide (k = x))
  sup : gi.ers ≠ [] → mg "super" = none
  hrd : gi.hrd = true → HrdOk K mg
  tabU : ∀ x ∈ TF, ∀ y ∈ TF, (He.cT K x).2 = (He.cT K y).2 → x = y
  tabN : ∀ x ∈ TF, x.2 = none
theorem find_df : ∀ {Pd : List Dp} {d : Dp}, (Pd.map (·.name)).Nodup → d ∈ Pd → findDf (Pd.map Dp.df) d.name = some d.df
  | [], _, _, h => by cases h
  | e :: Pd, d, nd, h => by
    rw [List.map_cons, List.nodup_cons] at nd
    rw [List.map_cons]
    unfold findDf
    rcases List.mem_cons.mp h with z | z
    · subst z
      rw [if_pos (show d.df.name = d.name from rfl)]
    · rw [if_neg (show ¬ e.df.name = d.name from fun q => nd.1 (by rw [show e.name = d.name from q]; exact List.mem_map.mpr ⟨d, z, rfl⟩))]
      exact find_df nd.2 z
theorem fnG_all (Y : Wd P K mg gi Pd) (TB : ∀ p ∈ TF, LamX.TabB base mg (He.cT K p).1 (He.cT K p).2) : ∀ (n : Nat) (d : Dp), d ∈ Pd → ∀ (fd : FuncData), d.At K (He.ga K d.name) fd → FnG P w K mg base (3 * n) (He.ga K d.name) fd d.ps (callN (Pd.map Dp.df) wf n d.name)
  | 0, d, hd, fd, F => ⟨fun _ _ => .inl rfl, fun A outer s H args us vs Q E _ _ _ _ _ ⟨ρ, μ, ds, _, _, h⟩ => (show False from h).elim⟩
  | n + 1, d, hd, fd, F => by
    have hrun : ∀ ds μ, callN (Pd.map Dp.df) wf (n + 1) d.name ds μ = runDf ⟨wf, callN (Pd.map Dp.df) wf n⟩ d.df ds μ := fun ds μ => by
      show (match findDf (Pd.map Dp.df) d.name with | some d => runDf ⟨wf, callN (Pd.map Dp.df) wf n⟩ d ds μ | none => .no) = _
      rw [find_df Y.nd hd]
    refine ⟨fun ds μ => ?_, fun A outer s H args us vs Q E hr hgd e0 hb r ⟨ρ, μ, ds, S, rs, h⟩ => ?_⟩
    · rw [hrun]
      unfold runDf
      by_cases e : ds.length = d.df.npar
      · exact .inr e
      · rw [if_neg e]; exact .inl rfl
    rw [hrun] at h
    unfold runDf at h
    by_cases en : ds.length = d.df.npar
    · rw [if_pos en] at h
      obtain ⟨hsc, hck⟩ := bq (Y.ok d hd)
      have SC := scB_ok hsc
      obtain ⟨oc, od, dV, kV, doc, pm, an, cdv, ct, osl, rfl, lk, hcd, _, _⟩ := F.ex
      have hl : vs.length = d.ps.length := by rw [rs.length]; exact en
      have KX : K.In s.heap := e0.mod.kin.keeps fun b o e => (e0.bs b o e).1
      have lim : s.heap.NoLimit := e0.mod.nolimit.keeps fun b o e => (e0.bs b o e).1
      have kinds : ∀ y ∈ d.ps.zip us, d.sc.names.lookup y.1 = some .local ∨ (d.sc.names.lookup y.1 = some .cell ∧ ((cellsFrom (s.heap.objs.size + 1) d.sc.names []).lookup y.1).isSome = true) := by
        rintro ⟨z, v⟩ hz
        exact (SC.par z (List.of_mem_zip hz).1).imp id fun q => ⟨q, PySem.W.cellsFrom_some _ _ _ (.inl q)⟩
      refine codeAny_call_function hr.depth (KX _ _ lk) rfl SC.co SC.gen rfl (PySem.W.codeRec_of KX hcd) (hb _ _ _ _ (wpAny_newFunctionEnv_cells SC.kind kinds fun env he s1 x => ?_))
      subst he
      refine ⟨lim.keeps x.toInCall.keep, codeAny_func ?_⟩
      have I : Inv (cxOf (CX P w) P w K mg base d.N d.name d.sc (He.ga K d.name) cdv A outer s H E) [] (L2.start d.N vs) H s1 := inv_start SC hr.hd e0 hl r x
      have hr' : Room (3 * n + 2 + 1) A := hr
      have hg0 : (A.deeper (envOfC d.name d.sc s.heap.objs.size (He.ga K d.name) cdv)).guards = some [] := by first | exact hgd | (unfold Around.deeper; simp [hgd])
      have ar : Ar { gi with cur := d.name } ⟨wf, callN (Pd.map Dp.df) wf n⟩ (3 * n) ⟨d.N, d.sc, true⟩ (cxOf (CX P w) P w K mg base d.N d.name d.sc (He.ga K d.name) cdv A outer s H E) (fun c dx _ H' => E c dx H') := by
        refine ⟨⟨rfl, rfl, SC.nd, rfl, fun _ _ => rfl⟩, ⟨fun y hy => ?_, Y.con, Y.fre, (hr'.deeper _).mono (by omega), hg0, Y.ers, Y.kit, Y.sup, Y.hrd⟩, takes_of rfl rfl rfl rfl, fun _ => ⟨hr'.deeper _, rfl, fun hc => ⟨?_, TB _ hc⟩, fun hc p hp e => ?_⟩⟩
        · obtain ⟨e, he, rfl⟩ := Y.fns y hy
          obtain ⟨m2, fd2, F2⟩ := Y.defs e he
          exact ⟨_, fd2, e.ps, m2, F2.kp, e.binds F2 (Y.bd e he), fnG_all Y TB n e he fd2 F2⟩
        · obtain ⟨c, ec⟩ := He.codeIn_ref hcd
          show cdv = _
          rw [ec]
          exact congrArg Value.ref (He.codeOf_eq (p := (d.name, none)) lk ec).symm
        · obtain ⟨q, hq, rfl⟩ := List.mem_map.mp hp
          rw [Y.tabU q hq _ hc e]
      have ps := sSs (gi := { gi with cur := d.name }) (cl := ⟨wf, callN (Pd.map Dp.df) wf n⟩) (k := 3 * n) ⟨d.N, d.sc, true⟩ SC.kind d.code d.body hck _ _ ar (passes_of rfl)
      have er : EnvR K ρ H (ds.map some ++ List.replicate (d.df.nsl - d.df.npar) none) (L2.start d.N vs) := by
        rw [← en]; exact envStart rs
      refine wpAny_mono (ps.run [] s1 (L2.start d.N vs) H { nx := fun _ H' => Q .non H', rt := Q } I ⟨_, ρ, μ, er, S, endD_fin (cut_fin S h)⟩) (fun fl s' hs => ?_) fun e s' hs => hs
      cases fl with
      | ret u =>
        obtain ⟨v, σ2, H2, J, rv, q⟩ := hs
        exact ⟨v, H2, J.os, J.bare, J.base, J.hok, rv, q⟩
      | next =>
        obtain ⟨σ2, H2, J, q⟩ := hs
        exact ⟨.non, H2, J.os, J.bare, J.base, J.hok, rfl, q⟩
      | brk => obtain ⟨_, _, _, q⟩ := hs; exact (show False from q).elim
      | cont => obtain ⟨_, _, _, q⟩ := hs; exact (show False from q).elim
    · rw [if_neg en] at h; exact (show False from h).elim
end

/-! ### a law's end -/
def μ0 : Sto := ⟨[]⟩
theorem sim0 {K : PySem.W.Frag} {H : Hp} (t : LamX.Tabs (tabsOf K) H) : Sim K [] H μ0 := by
  refine ⟨rfl, List.nodup_nil, fun a h => (nomatch h), t, fun n o h => ?_⟩
  cases h
theorem reps_ints {K : PySem.W.Frag} {ρ : List Addr} {H : Hp} : ∀ ns : List Int, Reps K ρ H (ns.map D.int) (ns.map V.int)
  | [] => .nil
  | n :: ns => .cons mk_int (reps_ints ns)
theorem law_run {P : Program} {w : World} {K : PySem.W.Frag} {mg mb : Str → Option Value} {k : Nat} {fa a : Addr} {fd : FuncData} {x : Str} {g : List D → Sto → Out D} {s1 : Shared} {vs : List Value} {ns : List Int}
    (kin : K.In s1.heap) (gl : s1.heap.Ns mainGlobals mg) (bl : s1.heap.Ns builtinsNs mb) (bb : ∀ x : Str, x ≠ "__name__" → mb x = bootBuiltins x) (nl : s1.heap.NoLimit) (ng : s1.gens = #[])
    (hT : ∀ p ∈ TF, s1.heap.get? (He.cT K p).2 = some { cls := .none, data := .fields #[] }) (nT : ∀ p ∈ TF, K.lookup (He.cT K p).2 = none) (C : ∀ p ∈ TF, PySem.W.CodeHd s1.heap (He.cT K p).1 (He.cT K p).2)
    (hbm : ∃ (bm : Addr) (ob : Obj), mg "__builtins__" = some (.ref bm) ∧ bm ≠ builtinsNs ∧ s1.heap.get? bm = some ob ∧ ob.cls = .type "module" ∧ ob.dict = some builtinsNs ∧ ob.data = .plain)
    (lst : s1.heap.get? a = some { cls := .type "list", data := .seq vs.toArray }) (li : IntsAre vs ns) (ln : ns.length ≤ sizeLine) (hr : Room k callerA)
    (F : ∀ base : Heap, (∀ p ∈ TF, LamX.TabB base mg (He.cT K p).1 (He.cT K p).2) → FnG P w K mg base k fa fd [x] g) (bd : ∀ (s : Shared) (u : Value), BindsTo s fd ⟨[u], []⟩ [(x, u)]) (yes : ∃ μ', g [.rol (ns.map .int)] μ0 = .ok (.bl true) μ') :
    codeAny (model P w) callerA (.call (.ref fa) ⟨[.ref a], []⟩) (fun r s' => r = .ok (.ret (.bool true)) ∧ OldK s1.heap s'.heap ∧ s'.os = s1.os ∧ AllBare s'.gens) s1 := by
  obtain ⟨μ', yes⟩ := yes
  have vals := vals_ints li
  have nvs := li.length
  obtain ⟨T, eT⟩ : ∃ T : List Addr, T = TF.map fun p => (He.cT K p).2 := ⟨_, rfl⟩
  have memT : ∀ p ∈ TF, (He.cT K p).2 ∈ T := fun p hp => by rw [eT]; exact List.mem_map.mpr ⟨p, hp, rfl⟩
  have ofT : ∀ b ∈ T, ∃ p ∈ TF, (He.cT K p).2 = b := fun b hb => by rw [eT] at hb; exact List.mem_map.mp hb
  have isT : ∀ b : Addr, b ∈ T → s1.heap.get? b = some { cls := .none, data := .fields #[] } := fun b hb => by
    obtain ⟨p, hp, e⟩ := ofT b hb
    rw [← e]
    exact hT p hp
  have aT : a ∉ T := fun z => by
    have q := isT a z
    rw [lst] at q
    have z' : Data.seq vs.toArray _ = Data.fields #[] := congrArg Obj.data (Option.some.inj q)
    cases z'
  -- any view in which only the script's list and the tables may be tracked does
  have main : ∀ H : Hp, (∀ b u, H b = some u → (b = a ∧ K.lookup a = none ∧ u = .frz { cls := .type "list", data := .seq vs.toArray } (.lst (ns.map V.int))) ∨ (b ∈ T ∧ u = .tbl #[])) → (∀ b ∈ T, H b = some (.tbl #[])) → RoL K H a (ns.map V.int) →
      codeAny (model P w) callerA (.call (.ref fa) ⟨[.ref a], []⟩) (fun r s' => r = .ok (.ret (.bool true)) ∧ OldK s1.heap s'.heap ∧ s'.os = s1.os ∧ AllBare s'.gens) s1 := by
    intro H only hH ro
    have noD : ∀ {b : Addr} {o : Obj}, s1.heap.get? b = some o → (∀ vs n, o.data ≠ .seq vs n) → o.data ≠ .fields #[] → H b = none := fun {b o} e h1 h2 => by
      cases q : H b with
      | none => rfl
      | some u =>
        rcases only b u q with ⟨e', _, _⟩ | ⟨e', _⟩
        · rw [e', lst] at e
          cases e
          exact (h1 _ _ rfl).elim
        · rw [isT b e'] at e
          cases e
          exact (h2 rfl).elim
    have dictOff : ∀ {b : Addr} {m : Str → Option Value}, s1.heap.Ns b m → (hidT s1.heap H).Ns b m := by
      rintro b m ⟨o, es, ep, e, dt, r⟩
      refine ⟨o, es, ep, hidT_get e (noD e (fun vs n z => ?_) fun z => ?_), dt, r⟩
      · rw [dt] at z; cases z
      · rw [dt] at z; cases z
    have kinB : K.In (hidT s1.heap H) := fun b o e => hidT_get (kin b o e) (by
      cases q : H b with
      | none => rfl
      | some u =>
        rcases only b u q with ⟨e', z2, _⟩ | ⟨e', _⟩
        · rw [e', z2] at e; cases e
        · obtain ⟨p, hp, ep⟩ := ofT b e'
          rw [← ep, nT p hp] at e
          cases e)
    have mod : L2.Mod K mg (hidT s1.heap H) := ⟨kinB, dictOff gl, ⟨mb, dictOff bl, bb⟩, nl.elim fun mc hm => ⟨mc, dictOff hm.1, hm.2⟩⟩
    have hok : HOk P w H s1.heap := by
      intro b u z
      rcases only b u z with ⟨rfl, _, rfl⟩ | ⟨hb, rfl⟩
      · exact ⟨lst, by rw [List.length_map]; exact ln, vs, _, vals, lst⟩
      · exact isT b hb
    have TB : ∀ p ∈ TF, LamX.TabB (hidT s1.heap H) mg (He.cT K p).1 (He.cT K p).2 := fun p hp => by
      have hTp := hT p hp
      refine ⟨?_, ?_, fun z => ?_⟩
      · obtain ⟨o, us, file, tf, flags, tg, inF, text, tt, e1, r1, r2, r3, r4, r5, r6, r7, r8, hne⟩ := C p hp
        refine ⟨o, us, file, tf, flags, tg, inF, text, tt, hidT_get e1 (noD e1 (fun vs n z => ?_) fun z => ?_), r1, r2, r3, r4, r5, r6, r7, r8, hne⟩
        · rw [r2] at z
          cases z
        · rw [r2] at z
          cases z
          simp at r3
      · obtain ⟨bm, ob, b1, b2, b3, b4, b5, b6⟩ := hbm
        have nG : bm ≠ mainGlobals := fun q => by
          obtain ⟨o, es, ep, e, hd, _⟩ := gl
          rw [q, e] at b3
          cases b3
          rw [hd] at b6
          cases b6
        have nP : bm ≠ (He.cT K p).2 := fun q => by
          rw [q, hTp] at b3
          cases b3
          cases b6
        refine ⟨bm, ob, b1, b2, nG, nP, hidT_get b3 (noD b3 (fun vs n z => ?_) fun z => ?_), b4, b5, b6⟩
        · rw [b6] at z
          cases z
        · rw [b6] at z
          cases z
      · obtain ⟨o, es, ep, e, hd, _⟩ := gl
        rw [z, hTp] at e
        cases e
        cases hd
    have e0 : Env0 P w K mg (hidT s1.heap H) callerA [] s1 H := ⟨rfl, mod, fun b o e => of_hidT e, Nat.le_of_eq (hidT_size _ _), trivial, fun b hb => (nomatch (show b ∈ ([] : List Addr) from hb)), hok, .of_eq ng⟩
    have tabs : LamX.Tabs (tabsOf K) H := fun q hq => by
      obtain ⟨p, hp, rfl⟩ := List.mem_map.mp (show q ∈ TF.map _ from hq)
      exact LamX.TabS.nil (hH _ (memT p hp))
    have prom : spG K g [.ref a] H (fun v _ => v = .bl true) (fun _ _ _ => False) := by
      refine ⟨[], μ0, [.rol (ns.map .int)], sim0 tabs, .cons ?_ .nil, ?_⟩
      · unfold Rep
        exact ⟨a, _, rfl, ro, reps_ints ns⟩
      · rw [yes]
        exact fun ρ' H' v _ _ r => rep_bl r
    refine codeAny_mono ((F (hidT s1.heap H) TB).run callerA [] s1 H ⟨[.ref a], []⟩ [.ref a] [.ref a] _ _ hr rfl e0 (bd s1 (.ref a)) (.cons rfl .nil) prom) fun r s' h => ?_
    cases r with
    | error e =>
      obtain ⟨_, _, _, _, _, _, _, _, _, _, _, _, z⟩ := h
      exact (show False from z).elim
    | ok fl =>
      cases fl with
      | next => exact (show False from h).elim
      | brk => exact (show False from h).elim
      | cont => exact (show False from h).elim
      | ret u =>
        obtain ⟨v, H2, os, bare, un, hok2, rv, rfl⟩ := h
        have eu : u = Value.bool true := rv
        subst eu
        have key : ∀ b o, b ∉ T → s1.heap.get? b = some o → s'.heap.get? b = some o := fun b o nb e => by
          cases q : H b with
          | none => exact un.keep b o e q (fun z => (nomatch (show b ∈ ([] : List Addr) from z))) (by simp)
          | some u =>
            rcases only b u q with ⟨rfl, _, rfl⟩ | ⟨z, _⟩
            · have e1 := (hok2 b _ (un.frzs b _ _ q)).1
              rw [e1, ← lst, e]
            · exact absurd z nb
        have grown : ∀ p ∈ TF, ∃ more : Array Value, s'.heap.get? (He.cT K p).2 = some { cls := .none, data := .fields more } := fun p hp => by
          obtain ⟨more, z⟩ := un.tbls (He.cT K p).2 #[] (hH _ (memT p hp))
          exact ⟨_, hok2 (He.cT K p).2 _ z⟩
        refine ⟨rfl, ⟨fun b o e => ?_, fun b o e => ?_⟩, os, bare⟩
        · by_cases hb : b ∈ T
          · obtain ⟨p, hp, ep⟩ := ofT b hb
            obtain ⟨more, hm⟩ := grown p hp
            rw [← ep] at e ⊢
            rw [hT p hp] at e
            cases e
            exact .inr (.inl ⟨((C p hp).tab (hT p hp)).isCodeTable, rfl, #[], more, rfl, by rw [Array.empty_append]; exact hm⟩)
          · exact .inl (key b o hb e)
        · by_cases hb : b ∈ T
          · obtain ⟨p, hp, ep⟩ := ofT b hb
            obtain ⟨more, hm⟩ := grown p hp
            rw [← ep]
            exact ⟨_, hm⟩
          · exact ⟨o, key b o hb e⟩
  cases hk : K.lookup a with
  | some o =>
    have e := kin a o hk
    rw [lst] at e
    cases e
    refine main (fun b => if b ∈ T then some (.tbl #[]) else none) (fun b u z => ?_) (fun b hb => if_pos hb) (.inr ⟨_, vs.toArray, _, hk, rfl, rfl, rfl, by rw [List.size_toArray, nvs]; exact ln, by simpa using vals, rfl⟩)
    by_cases hb : b ∈ T
    · have z' := (if_pos hb).symm.trans z
      exact .inr ⟨hb, (Option.some.inj z').symm⟩
    · cases (if_neg hb).symm.trans z
  | none =>
    refine main (fun b => if b = a then some (.frz { cls := .type "list", data := .seq vs.toArray } (.lst (ns.map V.int))) else if b ∈ T then some (.tbl #[]) else none) (fun b u z => ?_) (fun b hb => (if_neg (show ¬ b = a from fun z => aT (z ▸ hb))).trans (if_pos hb)) (.inl ⟨_, if_pos rfl⟩)
    by_cases hb : b = a
    · exact .inl ⟨hb, hk, Option.some.inj (z.symm.trans (if_pos hb))⟩
    · have z1 := (if_neg hb).symm.trans z
      by_cases hb2 : b ∈ T
      · exact .inr ⟨hb2, (Option.some.inj ((if_pos hb2).symm.trans z1)).symm⟩
      · cases (if_neg hb2).symm.trans z1
/-- what the head tells of the tables -/
structure TabsHd (K : PySem.W.Frag) (h : Heap) : Prop where
  hd : ∀ p ∈ TF, PySem.W.codeHdIn K (He.cT K p).1 (He.cT K p).2 = true
  out : ∀ p ∈ TF, K.lookup (He.cT K p).2 = none
  empty : ∀ p ∈ TF, h.get? (He.cT K p).2 = some { cls := .none, data := .fields #[] }
/-- THE END: the facts of the head, and that the interpreter says True -/
theorem law_end {l : PySem.W.OpenLaw} {n k : Nat} {q : Program} {loose : List Str} {XP : (Str → Option Value) → Heap → Prop} {YP : World → Heap → Prop} {d : DefRec} {gi : Gi} {Pd : List Dp} {wf : Nat} {x : Str}
    (hn : l.most = some n) (hn2 : n ≤ sizeLine) (hdf : d.params.defaults = []) (hr : Room (3 * k) callerA)
    (Y : ∀ (w : World) (mg : Str → Option Value) (fa : Addr) (h : Heap), YP w h → h.Ns mainGlobals mg → mg d.name = some (.ref fa) → ∃ K : PySem.W.Frag, K.In h ∧ Wd l.prog K mg gi Pd ∧ TabsHd K h)
    (dl : ∃ e ∈ Pd, e.name = d.name ∧ e.ps = [x])
    (yes : ∀ ns : List Int, ns.length ≤ n → (∀ z ∈ ns, Builtin.Int.intBits z ≤ 1048576) → ∃ μ', callN (Pd.map Dp.df) wf k d.name [.rol (ns.map .int)] μ0 = .ok (.bl true) μ') :
    PySem.W.WalkO q loose XP YP l.row.toRowW d [] (fun f vs => PySem.call f vs) := by
  refine Att.attach_callB hn hdf fun w s₀ s₁ mg mb fa o pm cd doc a vs ns G Yw ho hd hcd hmg hobj hints hlen hbits hg => ?_
  obtain ⟨K, kin, W, TH⟩ := Y w mg fa _ Yw G.T.g hmg
  obtain ⟨e, he, en, ep⟩ := dl
  obtain ⟨m1, fd, F⟩ := W.defs e he
  have en' := en
  rw [en, hmg] at m1
  have efa : fa = He.ga K e.name := by
    have z : Value.ref fa = .ref (He.ga K d.name) := Option.some.inj m1
    rw [en]
    exact Value.ref.inj z
  have bd : ∀ (s : Shared) (u : Value), BindsTo s fd ⟨[u], []⟩ [(x, u)] := fun s u => by
    have z := FunD.bindsA (ps := e.ps) F (W.bd e he) s [u] (by rw [ep]; rfl)
    rw [ep] at z
    exact z
  refine law_run (fd := fd) kin G.T.g G.T.b G.T.builtins G.T.nolimit hg TH.empty TH.out (fun p hp => PySem.W.codeHd_of_K kin (TH.hd p hp)) G.T.bmain hobj hints (Nat.le_trans hlen hn2) hr (fun base TB => ?_) bd (yes ns hlen hbits)
  have z := fnG_all (P := l.prog) (w := w) (base := base) (wf := wf) W TB k e he fd F
  rw [ep, en] at z
  rw [efa, en]
  exact z
end Rf


set_option Elab.async false
set_option linter.all false
set_option maxRecDepth 100000
set_option maxHeartbeats 2000000
/-! Rf, part K: what the head tells of the defs. -/
namespace Rf
open PySem PySem.Spec PyProof.Rows L2

def Dp.dd (d : Dp) : He.DefD := ⟨(d.name, none), d.name, d.name, d.args, d.body, d.sc, [], []⟩
def conFa : Str × D → He.Fa
  | (x, .int i) => .int x i
  | (x, .str z) => .str x z
  | (x, _) => .free x
def conOk : Str × D → Bool
  | (_, .int _) => true
  | (_, .str _) => true
  | _ => false
/-! ### the error classes -/
/-- the text of the __init__, of the def that hears -/
structure Tx where
  iA : Arguments
  iB : List Stmt
  iS : Scope
  hd : Option Dp
/-- what the head is to show of the __init__ -/
abbrev FnI : Type := Option (Str × Str × Arguments × FuncBody × Scope × Addr × Addr)
def iAd (K : PySem.W.Frag) : Addr := He.fAd K (topE, some "__init__")
def fnI (K : PySem.W.Frag) : FnI := match K.lookup (iAd K) with
  | some ⟨_, _, .func fd, _⟩ => some (fd.name, fd.qualname, fd.params, fd.body, fd.scope, fd.globals, fd.builtins)
  | _ => none
def Tx.val (t : Tx) : FnI := some ("__init__", topE ++ ".__init__", t.iA, .stmts t.iB, t.iS, mainGlobals, builtinsNs)
/-- the cell of __class__ -/
def cellOf (K : PySem.W.Frag) : Addr := match K.lookup (iAd K) with
  | some ⟨_, _, .func fd, _⟩ => (match fd.closure with
    | [(_, c)] => c
    | _ => 0)
  | _ => 0
def iCod (K : PySem.W.Frag) : Addr := match K.lookup (iAd K) with
  | some ⟨_, _, .func fd, _⟩ => (match fd.code with
    | .ref c => c
    | _ => 0)
  | _ => 0
def closB (K : PySem.W.Frag) : Bool := match K.lookup (iAd K) with
  | some ⟨_, _, .func fd, _⟩ => (match fd.closure with
    | [(z, _)] => decide (z = "__class__")
    | _ => false) && (match fd.code with
    | .ref c => PySem.W.codeIn K (.ref c) fd.qualname
    | _ => false) && (match fd.defaults with
    | .none => true
    | _ => false)
  | _ => false
def fileB (f : Str) (K : PySem.W.Frag) : Bool := match K.lookup (iCod K) with
  | some ⟨_, _, .fields vs, _⟩ => (match (vs[2]? : Option Value) with
    | some (.str file _) => f == file
    | _ => false)
  | _ => false
def cellB (K : PySem.W.Frag) : Bool := match K.lookup (cellOf K) with
  | some ⟨_, _, .cell (some (.ref D)), _⟩ => decide (D = He.ga K topE)
  | _ => false
def oexB (K : PySem.W.Frag) (C : Addr) : Bool := (match K.lookup C with
  | some ⟨.type t, _, .cls cd, sl⟩ => decide (t = "type") && (match cd.mro with
    | .ref C' :: bm => decide (C' = C) && PySem.HandSPX.refsVE bm
    | _ => false) && (match sl.toList with
    | [_, _, _, _, some (.builtin n), _] => decide (n = "ValueError.__new__")
    | _ => false) && cd.hasDict && !cd.hasDel
  | _ => false) && (He.eqO (PySem.W.findIn K (.ref C) "__setattr__") (some (some (.builtin "object.__setattr__"))) && (decide (PySem.W.subIn K (.ref C) (.type "BaseException") = some true) && (decide (PySem.W.typeIn K (.ref C) = some (.type "type")) && PySem.W.keepIn K (.ref C))))
theorem oexB_ok {K : PySem.W.Frag} {C : Addr} (h : oexB K C = true) : OexC K C := by
  unfold oexB at h
  obtain ⟨h1, h⟩ := bq h
  obtain ⟨h2, h⟩ := bq h
  obtain ⟨h3, h⟩ := bq h
  obtain ⟨h4, h5⟩ := bq h
  refine ⟨?_, He.eqO_ok h2, of_decide_eq_true h3, of_decide_eq_true h4, h5⟩
  split at h1
  · rename_i t dd cd sl e
    obtain ⟨h1, d1⟩ := bq h1
    obtain ⟨h1, d2⟩ := bq h1
    obtain ⟨h1, d3⟩ := bq h1
    obtain ⟨d4, d5⟩ := bq h1
    have e1 := of_decide_eq_true d4
    subst e1
    split at d5
    · rename_i C' bm em
      obtain ⟨e2, e3⟩ := bq d5
      have e2 := of_decide_eq_true e2
      subst e2
      split at d3
      · rename_i s0 s1 s2 s3 n s5 es
        have e4 := of_decide_eq_true d3
        subst e4
        have esl : sl = #[s0, s1, s2, s3, some (.builtin "ValueError.__new__"), s5] := by
          rw [← es]
        obtain ⟨nm, bs, mro, ns, qn, hdct, sn, sb, ab, col, del⟩ := cd
        dsimp only at em d2 d1
        subst em d2
        have d1' : del = false := by cases del <;> first | rfl | cases d1
        subst d1' esl
        exact ⟨nm, qn, ns, bs, bm, sn, sb, ab, col, dd, s0, s1, s2, s3, s5, e, e3⟩
      · cases d3
    · cases d5
  · cases h1
def excB (K : PySem.W.Frag) (D : Addr) : Bool := He.eqO (PySem.W.findIn K (.ref D) "__getattribute__") (some (some (.builtin "BaseException.__getattribute__"))) && (He.eqO (PySem.W.findIn K (.ref D) "__getattr__") (some none) && (decide (PySem.W.subIn K (.ref D) (.type "BaseException") = some true) && (PySem.W.hasDictIn K D && (He.eqO (PySem.W.findIn K (.ref D) "__class__") (some (some (.builtin "object.__class__"))) && (He.eqO (PySem.W.specialIn K (.builtin "object.__class__") "__get__") (some (some (.builtin "getset_descriptor.__get__"))) && (decide (PySem.W.takesIn K (.builtin "object.__class__") = some true) && decide (PySem.W.mroIn K D (.type "object") = some true)))))))
theorem excB_ok {K : PySem.W.Frag} {D : Addr} (h : excB K D = true) : ExcC K D := by
  unfold excB at h
  obtain ⟨h1, h⟩ := bq h
  obtain ⟨h2, h⟩ := bq h
  obtain ⟨h3, h⟩ := bq h
  obtain ⟨h4, h⟩ := bq h
  obtain ⟨h5, h⟩ := bq h
  obtain ⟨h6, h⟩ := bq h
  obtain ⟨h7, h8⟩ := bq h
  exact ⟨He.eqO_ok h1, He.eqO_ok h2, of_decide_eq_true h3, h4, He.eqO_ok h5, He.eqO_ok h6, of_decide_eq_true h7, of_decide_eq_true h8⟩
/-- one class -/
def errB (K : PySem.W.Frag) (x : Str) : Bool := oexB K (He.ga K x) && decide (PySem.W.mroIn K (He.ga K x) (.ref (He.ga K topE)) = some true) && decide (PySem.W.ks_superIn K (He.ga K x) (He.ga K topE) "__init__" = some (some (.builtin "ValueError.__init__"))) &&
  decide (PySem.W.subIn K (.ref (He.ga K x)) (.type "ValueError") = some true) && He.eqO (PySem.W.findIn K (.ref (He.ga K x)) "value") (some none) && He.eqO (PySem.W.findIn K (.ref (He.ga K x)) "__init__") (some (some (.ref (iAd K)))) && excB K (He.ga K x) && xfB K (He.ga K x) &&
  decide (PySem.W.exmOne K (.ref (He.ga K x)) (.ref (He.ga K topE)) = some true) && He.eqO (PySem.W.nsIn K mainGlobals x) (some (some (.ref (He.ga K x))))
/-- all of them -/
def ersB (f : Str) (ers : List Str) (K : PySem.W.Frag) : Bool := closB K && (fileB f K && (cellB K && ((PySem.W.clsIn K (He.ga K topE)).isSome && (He.eqO (PySem.W.nsIn K cStatics "thirdparty.any") (some none) && (decide (PySem.W.typeIn K (.ref (iAd K)) = some (.type "function")) && (ers.all (errB K) && (ers.all fun k => ers.all fun x => decide (PySem.W.kitOne K (.ref (He.ga K k)) (.ref (He.ga K x)) = some (decide (x = topE) || decide (k = x))))))))))
def tabsU (K : PySem.W.Frag) : Bool := TF.all fun x => decide (x.2 = none) && TF.all fun y => !decide ((He.cT K x).2 = (He.cT K y).2) || decide (x = y)
/-- what the text of the __init__ is -/
structure Tx.Ok (t : Tx) (P : Program) : Prop where
  body : ∃ q, t.iB = initBody q ∧ ((q 2).endLine == (q 4).line) = true
  args : ∃ a1 a2 : Arg, t.iA = ⟨[], [a1, a2], none, [], [], none, []⟩ ∧ a1.arg = "self" ∧ a2.arg = "value"
  sc : t.iS.kind = .function ∧ t.iS.isCoroutine = false ∧ t.iS.isGenerator = false ∧ (∀ x ∈ t.iS.names, x.2 ≠ .cell) ∧
    t.iS.names.lookup ("self" : Str) = some .local ∧ t.iS.names.lookup ("value" : Str) = some .local ∧ t.iS.names.lookup ("super" : Str) = some .globalImplicit ∧ t.iS.names.lookup ("__class__" : Str) = some .free
  top : (P.main.scope.names.lookup ("super" : Str)).isSome = false
  hdB : ∀ d, t.hd = some d → d.name = "_law_heard" ∧ d.ps = [("call" : Str)] ∧ (∃ q k j, d.body = heardBody q k j) ∧ FnScope NH ["call"] d.sc ∧ (∀ y ∈ NH, d.sc.names.lookup y = some .local) ∧ d.sc.names.lookup ("FenceError" : Str) = some .globalImplicit ∧ d.Bd
theorem init_binds (nm qn : Str) (body : FuncBody) (scope : Scope) (gl : Addr) (clo : List (Str × Addr)) (kV doc pm : Value) (an : Option Addr) (cd ct : Value) (bl : Addr) (an1 an2 : Option Expr) (ps1 ps2 : Pos) (x0 x1 : Value) :
    bindArgs ⟨nm, qn, ⟨[], [⟨"self", an1, ps1⟩, ⟨"value", an2, ps2⟩], none, [], [], none, []⟩, body, scope, gl, clo, .none, kV, doc, pm, an, cd, ct, bl⟩ ⟨[x0, x1], []⟩ = pure ([("self" : Str), ("value" : Str)].zip [x0, x1]) := rfl
theorem errs_of {P : Program} {K : PySem.W.Frag} {t : Tx} {ers : List Str} (T : t.Ok P) (eF : fnI K = t.val) (h : ersB P.main.file ers K = true) : (∀ x ∈ ers, PySem.W.nsIn K mainGlobals x = some (some (.ref (He.ga K x))) ∧ ErrOk P K x) ∧
    ∀ k ∈ ers, ∀ x ∈ ers, PySem.W.kitOne K (.ref (He.ga K k)) (.ref (He.ga K x)) = some (decide (x = topE) || decide (k = x)) := by
  unfold ersB at h
  obtain ⟨h1, h⟩ := bq h
  obtain ⟨h2, h⟩ := bq h
  obtain ⟨h3, h⟩ := bq h
  obtain ⟨h4, h⟩ := bq h
  obtain ⟨h5, h⟩ := bq h
  obtain ⟨h6, h⟩ := bq h
  obtain ⟨h7, h8⟩ := bq h
  obtain ⟨q, eb, hl⟩ := T.body
  obtain ⟨a1, a2, ea, ea1, ea2⟩ := T.args
  obtain ⟨c1, c2, c3, c4, c5, c6, c7, c8⟩ := T.sc
  refine ⟨fun x hx => ?_, fun k hk x hx => of_decide_eq_true (List.all_eq_true.mp (List.all_eq_true.mp h8 k hk) x hx)⟩
  have hx' := List.all_eq_true.mp h7 x hx
  unfold errB at hx'
  obtain ⟨hx', g10⟩ := bq hx'
  obtain ⟨hx', g9⟩ := bq hx'
  obtain ⟨hx', g8⟩ := bq hx'
  obtain ⟨hx', g7⟩ := bq hx'
  obtain ⟨hx', g6⟩ := bq hx'
  obtain ⟨hx', g5⟩ := bq hx'
  obtain ⟨hx', g4⟩ := bq hx'
  obtain ⟨hx', g3⟩ := bq hx'
  obtain ⟨g1, g2⟩ := bq hx'
  refine ⟨He.eqO_ok g10, ?_⟩
  -- the function's object
  unfold fnI Tx.val at eF
  split at eF
  · rename_i oc od fd osl lk
    obtain ⟨nm, qn, params, body, scope, gl, clo, dV, kV, doc, pm, an, cd, ct, bl⟩ := fd
    have eF := Option.some.inj eF
    simp only [Prod.mk.injEq] at eF
    obtain ⟨rfl, rfl, rfl, rfl, rfl, rfl, rfl⟩ := eF
    unfold closB at h1
    rw [lk] at h1
    obtain ⟨h1, k3⟩ := bq h1
    obtain ⟨k1, k2⟩ := bq h1
    dsimp only at k1 k2 k3
    have k4 : dV = .none := by cases dV <;> first | rfl | cases k3
    subst k4
    cases clo with
    | nil => cases k1
    | cons p r =>
      cases r with
      | cons _ _ => cases k1
      | nil =>
        obtain ⟨z, cc⟩ := p
        have ez : z = "__class__" := of_decide_eq_true k1
        subst ez
        cases cd with
        | ref cda =>
          have ecc : cellOf K = cc := by unfold cellOf; rw [lk]
          have eca : iCod K = cda := by unfold iCod; rw [lk]
          refine ⟨⟨iAd K, He.ga K topE, cc, cda, _, ⟨oexB_ok g1, of_decide_eq_true g2, of_decide_eq_true g3, of_decide_eq_true g4, He.eqO_ok g5⟩, ⟨⟨oc, od, osl, "__init__", topE ++ ".__init__", t.iA, t.iS, .none, kV, doc, pm, ct, an, q, a1, ?_, lk, k2, by rw [ea]; rfl, ea1, c1, c2, c3, c4, c5, c6, c7, c8, hl⟩, ?_, ?_, ?_, T.top, He.eqO_ok h5⟩, He.eqO_ok g6, of_decide_eq_true h6, ?_⟩, excB_ok g7, xfB_ok g8, of_decide_eq_true g9⟩
          · rw [eb]
          · unfold fileB at h2
            rw [eca] at h2
            split at h2
            · rename_i ccl cdd vs ccs e2
              split at h2
              · rename_i file tf e3
                exact ⟨ccl, cdd, vs, ccs, file, tf, e2, e3, h2⟩
              · cases h2
            · cases h2
          · unfold cellB at h3
            rw [ecc] at h3
            split at h3
            · rename_i cl cld D csl e2
              rw [of_decide_eq_true h3] at e2
              exact ⟨cl, cld, csl, e2⟩
            · cases h3
          · exact Option.isSome_iff_exists.mp h4
          · refine Binds.all fun us hu => ?_
            obtain ⟨x0, x1, rfl⟩ : ∃ x0 x1, us = [x0, x1] := by
              match us, hu with
              | [x0, x1], _ => exact ⟨x0, x1, rfl⟩
            obtain ⟨n1, an1, ps1⟩ := a1
            obtain ⟨n2, an2, ps2⟩ := a2
            dsimp only at ea1 ea2
            subst ea1 ea2
            rw [ea]
            exact init_binds _ _ _ _ _ _ _ _ _ _ _ _ _ _ _ _ _ _ _
        | _ => cases k2
  · cases eF
/-! ### the Hook: HeadHook4's, the statics among what is looked at, the __init__ -/
abbrev AlY : Type := He.AlX × FnI
def asY (g : Addr → Option Obj) (n : Nat) : List Addr := cStatics :: He.asD g n
def KY (n : Nat) (g : Addr → Option Obj) : PySem.W.Frag := He.frT g (asY g n)
def obsY (n : Nat) (fa : List He.Fa) (fn : List He.DefD) (ex : PySem.W.Frag → Bool) (g : Addr → Option Obj) : AlY := ((He.obsT fa fn [] (KY n g), ex (KY n g) && He.tabsB g TF (KY n g)), fnI (KY n g))
def valY (fn : List He.DefD) (t : Tx) (w : World) : AlY := ((He.valT fn [] w, true), t.val)
structure SaysY (fa : List He.Fa) (fn : List He.DefD) (t : Tx) (ex : PySem.W.Frag → Bool) (h : Heap) (K : PySem.W.Frag) : Prop where
  d : He.SaysD fa fn K
  more : ex K = true
  tabs : TabsHd K h
  fnI : fnI K = t.val
theorem saysY_of {n : Nat} {fa : List He.Fa} {fn : List He.DefD} {t : Tx} {ex : PySem.W.Frag → Bool} {w : World} {h : Heap} (e : obsY n fa fn ex h.get? = valY fn t w) : SaysY fa fn t ex h (KY n h.get?) := by
  have e0 : ((He.obsT fa fn [] (KY n h.get?), ex (KY n h.get?) && He.tabsB h.get? TF (KY n h.get?)) : He.AlX) = (He.valT fn [] w, true) := congrArg (fun z : AlY => z.1) e
  have e3 : fnI (KY n h.get?) = t.val := congrArg (fun z : AlY => z.2) e
  have e1 : He.SaysT fa fn [] w (KY n h.get?) := congrArg (fun z : He.AlX => z.1) e0
  have e2 : (ex (KY n h.get?) && He.tabsB h.get? TF (KY n h.get?)) = true := congrArg (fun z : He.AlX => z.2) e0
  obtain ⟨h1, h2⟩ := bq e2
  have key : ∀ p ∈ TF, PySem.W.codeHdIn (KY n h.get?) (He.cT (KY n h.get?) p).1 (He.cT (KY n h.get?) p).2 = true ∧ ∃ o, h.get? (He.cT (KY n h.get?) p).2 = some o ∧ He.emptyTab o = true := fun p hp => by
    obtain ⟨h3, h4⟩ := bq (List.all_eq_true.mp h2 p hp)
    refine ⟨h3, ?_⟩
    cases q : h.get? (He.cT (KY n h.get?) p).2 with
    | none =>
      rw [q] at h4
      cases h4
    | some o =>
      rw [q] at h4
      exact ⟨o, rfl, h4⟩
  exact ⟨He.SaysT.d e1, h1, ⟨fun p hp => (key p hp).1, fun p hp => by
    obtain ⟨_, o, q, z⟩ := key p hp
    exact He.frT_none q z, fun p hp => by
    obtain ⟨_, o, q, z⟩ := key p hp
    rw [q, He.emptyTab_eq z]⟩, e3⟩
def hookY (n : Nat) (fa : List He.Fa) (fn : List He.DefD) (t : Tx) (ex : PySem.W.Frag → Bool) : PySem.W.Hook where
  α := AlY
  obs := fun s => obsY n fa fn ex s.heap.get?
  val := fun w => valY fn t w
  says := fun w h => ∃ K : PySem.W.Frag, K.In h ∧ SaysY fa fn t ex h K
  of := fun _ _ e => ⟨_, He.frT_in, saysY_of e⟩
  keeps := fun _ _ _ ⟨K, hK, c⟩ k => ⟨K, PySem.W.Frag.In.keeps hK k, ⟨c.d, c.more, ⟨c.tabs.hd, c.tabs.out, fun p hp => k _ _ (c.tabs.empty p hp)⟩, c.fnI⟩⟩
theorem obsY_eq {n : Nat} {fa : List He.Fa} {fn : List He.DefD} {t : Tx} {ex : PySem.W.Frag → Bool} {g : Addr → Option Obj} {s : Shared} (h : ∀ a, g a = s.heap.get? a) : obsY n fa fn ex g = (hookY n fa fn t ex).obs s := by
  have e : g = s.heap.get? := funext h
  rw [e] <;> rfl
/-! ### from the head's facts to Wd -/
def faOf (gi : Gi) (Pd : List Dp) : List He.Fa := Pd.map (fun d => He.Fa.glo d.name) ++ (gi.fre.map He.Fa.free ++ (gi.con.map conFa ++ [He.Fa.free "super"]))
def hdGlo (t : Tx) : List He.Fa := match t.hd with
  | some d => [.glo d.name, .glo topE]
  | none => []
def fnOfT (t : Tx) (Pd : List Dp) : List He.DefD := Pd.map Dp.dd ++ (match t.hd with
  | some d => [d.dd]
  | none => [])
def exOf (f : Str) (ers : List Str) (K : PySem.W.Frag) : Bool := (ers.isEmpty || ersB f ers K) && tabsU K
theorem wd_of {P : Program} {K : PySem.W.Frag} {h : Heap} {mg : Str → Option Value} {gi : Gi} {Pd : List Dp} {t : Tx} (X : K.In h) (G : h.Ns mainGlobals mg) (c : SaysY (faOf gi Pd ++ hdGlo t) (fnOfT t Pd) t (exOf P.main.file gi.ers) h K) (T : t.Ok P) (ok : ∀ d ∈ Pd, d.ok gi = true) (bd : ∀ d ∈ Pd, d.Bd)
    (fns : gi.fns = Pd.map (·.name)) (nd : (Pd.map (·.name)).Nodup) (con : gi.con.all conOk = true) (hh : gi.hrd = t.hd.isSome) : Wd P K mg gi Pd ∧ TabsHd K h := by
  have fact : ∀ {f : He.Fa}, f ∈ faOf gi Pd → f.ok K = true := fun hf => He.SaysD.facts c.d (List.mem_append_left _ hf)
  obtain ⟨e1, e2⟩ := bq c.more
  have EO : (∀ x ∈ gi.ers, PySem.W.nsIn K mainGlobals x = some (some (.ref (He.ga K x))) ∧ ErrOk P K x) ∧ ∀ k ∈ gi.ers, ∀ x ∈ gi.ers, PySem.W.kitOne K (.ref (He.ga K k)) (.ref (He.ga K x)) = some (decide (x = topE) || decide (k = x)) := by
    rcases Bool.or_eq_true_iff.mp e1 with z | z
    · rw [List.isEmpty_iff.mp z]
      exact ⟨fun x hx => (nomatch hx), fun x hx => (nomatch hx)⟩
    · exact errs_of T c.fnI z
  refine ⟨⟨fun d hd => ?_, ok, bd, fun x hx => ?_, nd, fun p hp => ?_, fun x hx => ?_, fun x hx => ?_, EO.2, fun _ => ?_, fun q => ?_, fun x hx y hy e => ?_, fun x hx => ?_⟩, c.tabs⟩
  · have m := He.glo_ok X G (fact (f := .glo d.name) (List.mem_append_left _ (List.mem_map.mpr ⟨d, hd, rfl⟩)))
    obtain ⟨fd, F⟩ := He.SaysD.defs c.d (d := d.dd) (List.mem_append_left _ (List.mem_map.mpr ⟨d, hd, rfl⟩))
    exact ⟨m, fd, F⟩
  · rw [fns] at hx
    obtain ⟨d, hd, e⟩ := List.mem_map.mp hx
    exact ⟨d, hd, e⟩
  · have k := List.all_eq_true.mp con p hp
    have m := fact (f := conFa p) (List.mem_append_right _ (List.mem_append_right _ (List.mem_append_left _ (List.mem_map.mpr ⟨p, hp, rfl⟩))))
    obtain ⟨x, d⟩ := p
    cases d with
    | int i =>
      obtain ⟨t, e⟩ := He.int_ok X G (x := x) (i := i) m
      exact ⟨_, .int i, e, ⟨t, rfl⟩, fun _ _ => mk_int⟩
    | str z =>
      obtain ⟨t, e⟩ := He.str_ok X G (x := x) (z := z) m
      exact ⟨_, .str z, e, ⟨t, rfl⟩, fun _ _ => mk_str⟩
    | _ => cases k
  · exact He.free_ok X G (fact (f := .free x) (List.mem_append_right _ (List.mem_append_left _ (List.mem_map.mpr ⟨x, hx, rfl⟩))))
  · exact ⟨PySem.W.mg_of X G (EO.1 x hx).1, (EO.1 x hx).2⟩
  · exact He.free_ok X G (fact (f := .free "super") (List.mem_append_right _ (List.mem_append_right _ (List.mem_append_right _ List.mem_cons_self))))
  · rw [hh] at q
    obtain ⟨d, ed⟩ := Option.isSome_iff_exists.mp q
    obtain ⟨n1, n2, ⟨qq, kk, jj, n3⟩, n4, n5, n6, n7⟩ := T.hdB d ed
    have m := He.glo_ok X G (He.SaysD.facts c.d (f := .glo d.name) (List.mem_append_right _ (by unfold hdGlo; rw [ed]; exact List.mem_cons_self)))
    have m2 := He.glo_ok X G (He.SaysD.facts c.d (f := .glo topE) (List.mem_append_right _ (by unfold hdGlo; rw [ed]; exact List.mem_cons_of_mem _ List.mem_cons_self)))
    obtain ⟨fd, F⟩ := He.SaysD.defs c.d (d := d.dd) (List.mem_append_right _ (by rw [ed]; exact List.mem_cons_self))
    have F' : d.At K (He.ga K d.name) fd := F
    obtain ⟨oc, od, dV, kV, doc, pm, an, cdv, ct, osl, ef, lk, hcd, _, _⟩ := F'.ex
    have bi := Dp.binds F' n7
    rw [n1] at m lk hcd ef
    rw [n3] at ef
    rw [n2] at bi
    exact ⟨_, fd, d.args, qq, kk, jj, d.sc, dV, kV, doc, pm, cdv, ct, oc, an, od, osl, m, by rw [← n1]; exact F'.kp, ef, lk, hcd, bi, n4, n5, n6, m2⟩
  · have z := List.all_eq_true.mp e2 x hx
    obtain ⟨_, z⟩ := bq z
    have z := List.all_eq_true.mp z y hy
    rcases Bool.or_eq_true_iff.mp z with z | z
    · rw [decide_eq_true e] at z; cases z
    · exact of_decide_eq_true z
  · exact of_decide_eq_true (bq (List.all_eq_true.mp e2 x hx)).1
end Rf


set_option Elab.async false
set_option linter.all false
set_option maxRecDepth 100000
set_option maxHeartbeats 2000000
/-! Rg, part L: the interpreter, computed with. -/
namespace Rf
open PySem PySem.Spec PyProof.Rows L2
/-- fuel of every loop -/
theorem WF_ex : ∃ n : Nat, 2 ^ 1000000 ≤ n := ⟨2 ^ 1000000, Nat.le_refl _⟩
noncomputable def WF : Nat := Classical.choose WF_ex
theorem WF_ge : 2 ^ 1000000 ≤ WF := Classical.choose_spec WF_ex
theorem callN_step {Pd : List Dp} (nd : (Pd.map (·.name)).Nodup) {wf : Nat} {d : Dp} (h : d ∈ Pd) (n : Nat) (ds : List D) (μ : Sto) : callN (Pd.map Dp.df) wf (n + 1) d.name ds μ = runDf ⟨wf, callN (Pd.map Dp.df) wf n⟩ d.df ds μ := by
  show (match findDf (Pd.map Dp.df) d.name with | some d => runDf ⟨wf, callN (Pd.map Dp.df) wf n⟩ d ds μ | none => .no) = _
  rw [find_df nd h]
/-! ### stores -/
section
variable {μ : Sto} {o o' : O} {p q : Nat} {d : D} {xs : List (Option O)}
theorem Sto.cut_all (μ : Sto) : μ.cut μ.sz = μ := by unfold Sto.cut Sto.sz; rw [List.take_length]
theorem Sto.put_put : (μ.put p o).put p o' = μ.put p o' := by unfold Sto.put; simp
theorem Sto.push_put : (μ.push o).put μ.sz o' = μ.push o' := by unfold Sto.put Sto.push Sto.sz; simp
theorem Sto.push_cut : (μ.push o).cut μ.sz = μ := by unfold Sto.cut Sto.push Sto.sz; simp
theorem Sto.put_self (h : μ.get p = some o) : μ.put p o = μ := by
  have e := Sto.get_lt h
  obtain ⟨row⟩ := μ
  unfold Sto.put
  congr 1
  refine List.ext_getElem? fun j => ?_
  rw [List.getElem?_set]
  split
  · rename_i e1
    subst e1
    have h' : (row[p]?).join = some o := h
    have e' : p < row.length := e
    show (if p < row.length then some (some o) else none) = row[p]?
    rw [if_pos e']
    rw [List.getElem?_eq_getElem e'] at h' ⊢
    have h'' : row[p] = some o := h'
    rw [h'']
  · rfl
theorem cut_same : cutS μ (.ok d μ) = .ok d μ := by
  show Out.ok d (if cutOk μ μ d then μ.cut μ.sz else μ) = _
  rw [Sto.cut_all]
  split <;> rfl
theorem cut_put : cutS μ (.ok d (μ.put p o)) = .ok d (μ.put p o) := by
  have e : (μ.put p o).cut μ.sz = μ.put p o := by
    rw [← Sto.sz_put μ p o]
    exact Sto.cut_all _
  show Out.ok d (if cutOk μ (μ.put p o) d then (μ.put p o).cut μ.sz else μ.put p o) = _
  rw [e]
  split <;> rfl
theorem cut_pp : cutS (μ.put p o) (.ok d (μ.put p o')) = .ok d (μ.put p o') := by
  rw [← Sto.put_put (μ := μ) (p := p) (o := o) (o' := o'), cut_put]
theorem cellOk_self (k : Nat) (a : Option O) : cellOk k a a = true := by
  cases a with
  | none => rfl
  | some o => unfold cellOk; simp only; rw [sameO_self, Bool.or_true]
theorem oldOk_more (k : Nat) : ∀ (l ys : List (Option O)), oldOk k l (l ++ ys) = true
  | [], _ => rfl
  | a :: l, ys => by
    show (cellOk k a a && oldOk k l (l ++ ys)) = true
    rw [cellOk_self, oldOk_more k l ys]
    rfl
theorem oldOk_set (k : Nat) (h : closedO k o = true) : ∀ (l ys : List (Option O)) (p : Nat), oldOk k l (l.set p (some o) ++ ys) = true
  | [], _, _ => rfl
  | a :: l, ys, 0 => by
    show (cellOk k a (some o) && oldOk k l (l ++ ys)) = true
    rw [oldOk_more, Bool.and_true]
    unfold cellOk
    simp only
    rw [h, Bool.true_or]
  | a :: l, ys, p + 1 => by
    show (cellOk k a a && oldOk k l (l.set p (some o) ++ ys)) = true
    rw [cellOk_self, oldOk_set k h l ys p]
    rfl
theorem cut_more (h : closedD μ.sz d = true) : cutS μ (.ok d ⟨μ.row ++ xs⟩) = .ok d μ := by
  have e : (⟨μ.row ++ xs⟩ : Sto).cut μ.sz = μ := by unfold Sto.cut Sto.sz; simp
  show Out.ok d (if cutOk μ ⟨μ.row ++ xs⟩ d then (⟨μ.row ++ xs⟩ : Sto).cut μ.sz else ⟨μ.row ++ xs⟩) = _
  rw [if_pos (by unfold cutOk; rw [h, oldOk_more]; rfl), e]
theorem cut_put_more (h : closedD μ.sz d = true) (h2 : closedO μ.sz o = true) : cutS μ (.ok d ⟨(μ.put p o).row ++ xs⟩) = .ok d (μ.put p o) := by
  have e : (⟨(μ.put p o).row ++ xs⟩ : Sto).cut μ.sz = μ.put p o := by
    rw [← Sto.sz_put μ p o]; unfold Sto.cut Sto.sz; simp
  show Out.ok d (if cutOk μ ⟨(μ.put p o).row ++ xs⟩ d then (⟨(μ.put p o).row ++ xs⟩ : Sto).cut μ.sz else ⟨(μ.put p o).row ++ xs⟩) = _
  rw [if_pos (by unfold cutOk; rw [h]; exact oldOk_set _ h2 _ _ _), e]
theorem cut_push (h : closedD μ.sz d = true) : cutS μ (.ok d (μ.push o)) = .ok d μ := cut_more (xs := [some o]) h
end
/-! ### the rules of evaluation -/
section
variable {c : Cl} {env env' : En} {μ μ' : Sto} {α β : Type} {a : α} {d : D}
theorem ob (k : α → Sto → Out β) : (Out.ok a μ).bind k = k a μ := rfl
theorem os (k : α → Sto → Out Fl) : (Out.ok a μ).stm env k = k a μ := rfl
theorem oo : ofOpt μ (some a) = .ok a μ := rfl
theorem ol : lift (some (a, μ)) = .ok a μ := rfl
/-- what follows a statement; the rest is kept as it is written -/
def flowS (c : Cl) (r : List S) : Out Fl → Out Fl
  | .ok (.nx env) μ => exSs c r env μ
  | .ok (.rt d) μ => .ok (.rt d) μ
  | .ok (.bk e) μ => .ok (.bk e) μ
  | .ok (.ct e) μ => .ok (.ct e) μ
  | .ok (.ex k d e) μ => .ok (.ex k d e) μ
  | .exc k d μ => .exc k d μ
  | .no => .no
def ifS (c : Cl) (env : En) (a b : List S) : Out Bool → Out Fl
  | .ok k μ => if k then exSs c a env μ else exSs c b env μ
  | .exc k d μ => .ok (.ex k d env) μ
  | .no => .no
theorem q_cons {s : S} {r : List S} : exSs c (s :: r) env μ = flowS c r (exS c s env μ) := by
  show (exS c s env μ).bind (fun f μ => match f with
    | .nx env => exSs c r env μ
    | f => .ok f μ) = _
  cases exS c s env μ with
  | ok f μ' => cases f <;> rfl
  | exc c d μ' => rfl
  | no => rfl
theorem q_nil : exSs c [] env μ = .ok (.nx env) μ := rfl
theorem fl_nx {r : List S} : flowS c r (Out.ok (.nx env) μ) = exSs c r env μ := rfl
theorem fl_rt {r : List S} : flowS c r (Out.ok (.rt d) μ) = .ok (.rt d) μ := rfl
theorem if_ok {x y : List S} {k : Bool} : ifS c env x y (.ok k μ) = if k then exSs c x env μ else exSs c y env μ := rfl
theorem if_yes {x y : List S} : ifS c env x y (.ok true μ) = exSs c x env μ := rfl
theorem if_no {x y : List S} : ifS c env x y (.ok false μ) = exSs c y env μ := rfl
theorem en_rt : endD (.ok (.rt d) μ) = .ok d μ := rfl
theorem en_nx : endD (.ok (.nx env) μ) = .ok .non μ := rfl
theorem s_set {i : Nat} {e : E} : exS c (.set i e) env μ = ((den c e).1 env μ).stm env fun d μ => .ok (.nx (env.set i (some d))) μ := rfl
theorem s_setLc {i : Nat} {e : E} : exS c (.setLc i e) env μ = ((den c e).1 env μ).stm env fun d μ => .ok (.nx (env.set i (some d))) μ := rfl
theorem s_ret {e : E} : exS c (.ret e) env μ = ((den c e).1 env μ).stm env fun d μ => .ok (.rt d) μ := rfl
theorem s_retN : exS c .retN env μ = .ok (.rt .non) μ := rfl
theorem s_dro {e : E} : exS c (.dro e) env μ = ((den c e).1 env μ).stm env fun _ μ => .ok (.nx env) μ := rfl
theorem s_ife {t : E} {a b : List S} : exS c (.ife t a b) env μ = ifS c env a b ((den c t).2 env μ) := by
  show ((den c t).2 env μ).stm env (fun k μ => if k then exSs c a env μ else exSs c b env μ) = _
  cases (den c t).2 env μ <;> rfl
theorem s_par {i j : Nat} {a b : E} : exS c (.par i j a b) env μ = ((den c a).1 env μ).stm env fun x μ => ((den c b).1 env μ).stm env fun y μ => .ok (.nx ((env.set i (some x)).set j (some y))) μ := rfl
theorem s_par3 {i j l : Nat} {a b e : E} : exS c (.par3 i j l a b e) env μ = ((den c a).1 env μ).stm env fun x μ => ((den c b).1 env μ).stm env fun y μ => ((den c e).1 env μ).stm env fun z μ => .ok (.nx (((env.set i (some x)).set j (some y)).set l (some z))) μ := rfl
theorem s_tgt {t : Tg} {e : E} : exS c (.tgt t e) env μ = ((den c e).1 env μ).stm env fun d μ => (ofOpt μ (t.set (asTup μ d) env)).stm env fun env' μ => .ok (.nx env') μ := rfl
theorem s_for {t : Tg} {s : Src} {b : List S} : exS c (.foR t s b) env μ = ((deni c s) env μ).stm env fun J μ => forS t (exSs c b) (J.fuel c.wf) J env μ := rfl
theorem s_wil {t : E} {b : List S} : exS c (.wil t b) env μ = whlS (den c t).2 (exSs c b) c.wf env μ := rfl
theorem s_sub {o i e : E} : exS c (.sub o i e) env μ = ((den c e).1 env μ).stm env fun v μ => ((den c o).1 env μ).stm env fun x μ => ((den c i).1 env μ).stm env fun k μ => match setD μ x k v with
  | some μ' => .ok (.nx env) μ'
  | none => .no := rfl
theorem v_var {i : Nat} : (den c (.var i)).1 env μ = varD i env μ := rfl
theorem v_cst {d : D} : (den c (.cst d)).1 env μ = .ok d μ := rfl
theorem v_glo {x : Str} {d : D} : (den c (.glo x d)).1 env μ = .ok d μ := rfl
theorem v_tup {es : Es} : (den c (.tup es)).1 env μ = (dens c es env μ).bind fun ds μ => if ds.length ≤ LIM then .ok (.tup ds) μ else .no := rfl
theorem v_lst {es : Es} : (den c (.lst es)).1 env μ = (dens c es env μ).bind fun ds μ => if ds.length ≤ LIM then .ok (.rol ds) μ else .no := rfl
theorem v_tupS {es : Fs} : (den c (.tupS es)).1 env μ = (denf c es env μ).bind fun ds μ => if ds.length ≤ LIM then .ok (.tup ds) μ else .no := rfl
theorem v_lstS {es : Fs} : (den c (.lstS es)).1 env μ = (denf c es env μ).bind fun ds μ => if ds.length ≤ LIM then .ok (.rol ds) μ else .no := rfl
theorem v_mls {es : Es} : (den c (.mls es)).1 env μ = (dens c es env μ).bind fun ds μ => if ds.length ≤ LIM then .ok (.obj μ.sz) (μ.push (.lst ds)) else .no := rfl
theorem v_bin {op : Operator} {a b : E} : (den c (.bin op a b)).1 env μ = ((den c a).1 env μ).bind fun x μ => ((den c b).1 env μ).bind fun y μ => lift (binD op x y μ) := rfl
theorem v_neg {a : E} : (den c (.neg a)).1 env μ = ((den c a).1 env μ).bind fun x μ => ofOpt μ (negD x) := rfl
theorem v_not {a : E} : (den c (.not a)).1 env μ = ((den c a).1 env μ).bind fun x μ => ofOpt μ ((truD μ x).map fun b => .bl (!b)) := rfl
theorem t_not {a : E} : (den c (.not a)).2 env μ = ((den c a).2 env μ).bind fun k μ => .ok (!k) μ := rfl
theorem v_cmp {op : CmpOp} {a b : E} : (den c (.cmp op a b)).1 env μ = ((den c a).1 env μ).bind fun x μ => ((den c b).1 env μ).bind fun y μ => ofOpt μ ((cmpD μ op x y).map .bl) := rfl
theorem t_cmp {op : CmpOp} {a b : E} : (den c (.cmp op a b)).2 env μ = ((den c a).1 env μ).bind fun x μ => ((den c b).1 env μ).bind fun y μ => ofOpt μ (cmpD μ op x y) := rfl
theorem v_chn {o1 o2 : CmpOp} {a b e : E} : (den c (.chn o1 o2 a b e)).1 env μ = ((den c a).1 env μ).bind fun x μ => ((den c b).1 env μ).bind fun y μ => (ofOpt μ (cmpD μ o1 x y)).bind fun k μ => if k then ((den c e).1 env μ).bind fun z μ => ofOpt μ ((cmpD μ o2 y z).map .bl) else .ok (.bl false) μ := rfl
theorem t_chn {o1 o2 : CmpOp} {a b e : E} : (den c (.chn o1 o2 a b e)).2 env μ = ((den c (.chn o1 o2 a b e)).1 env μ).bind fun x μ => ofOpt μ (truD μ x) := rfl
theorem v_isN {ng : Bool} {a : E} : (den c (.isN ng a)).1 env μ = ((den c a).1 env μ).bind fun x μ => .ok (.bl (isnD ng x)) μ := rfl
theorem t_isN {ng : Bool} {a : E} : (den c (.isN ng a)).2 env μ = ((den c (.isN ng a)).1 env μ).bind fun x μ => ofOpt μ (truD μ x) := rfl
theorem v_and {a b : E} : (den c (.and a b)).1 env μ = ((den c a).1 env μ).bind fun x μ => (ofOpt μ (truD μ x)).bind fun k μ => if k then (den c b).1 env μ else .ok x μ := rfl
theorem v_or {a b : E} : (den c (.or a b)).1 env μ = ((den c a).1 env μ).bind fun x μ => (ofOpt μ (truD μ x)).bind fun k μ => if k then .ok x μ else (den c b).1 env μ := rfl
theorem t_and {a b : E} : (den c (.and a b)).2 env μ = ((den c a).2 env μ).bind fun k μ => if k then (den c b).2 env μ else .ok false μ := rfl
theorem t_or {a b : E} : (den c (.or a b)).2 env μ = ((den c a).2 env μ).bind fun k μ => if k then .ok true μ else (den c b).2 env μ := rfl
theorem v_ife {t a b : E} : (den c (.ife t a b)).1 env μ = ((den c t).2 env μ).bind fun k μ => if k then (den c a).1 env μ else (den c b).1 env μ := rfl
theorem t_ife {t a b : E} : (den c (.ife t a b)).2 env μ = ((den c t).2 env μ).bind fun k μ => if k then (den c a).2 env μ else (den c b).2 env μ := rfl
theorem v_idx {a i : E} : (den c (.idx a i)).1 env μ = ((den c a).1 env μ).bind fun x μ => ((den c i).1 env μ).bind fun y μ => ofOpt μ (idxD μ x y) := rfl
theorem v_slc {a : E} {lo hi : Eo} : (den c (.slc a lo hi)).1 env μ = ((den c a).1 env μ).bind fun x μ => (deno c lo env μ).bind fun l μ => (deno c hi env μ).bind fun h μ => lift (slcD μ l h x) := rfl
theorem v_cal {f : Str} {es : Es} : (den c (.cal f es)).1 env μ = (dens c es env μ).bind fun ds μ => c.call f ds μ := rfl
theorem t_cal {f : Str} {es : Es} : (den c (.cal f es)).2 env μ = ((den c (.cal f es)).1 env μ).bind fun x μ => ofOpt μ (truD μ x) := rfl
theorem v_blt {b : Bt} {es : Es} : (den c (.blt b es)).1 env μ = (dens c es env μ).bind fun ds μ => lift (bltD μ b ds) := rfl
theorem t_blt {b : Bt} {es : Es} : (den c (.blt b es)).2 env μ = ((den c (.blt b es)).1 env μ).bind fun x μ => ofOpt μ (truD μ x) := rfl
theorem v_isi {a : E} {t : Ty} : (den c (.isi a t)).1 env μ = ((den c a).1 env μ).bind fun x μ => ofOpt μ ((isiD μ x t).map .bl) := rfl
theorem t_isi {a : E} {t : Ty} : (den c (.isi a t)).2 env μ = ((den c (.isi a t)).1 env μ).bind fun x μ => ofOpt μ (truD μ x) := rfl
theorem t_var {i : Nat} : (den c (.var i)).2 env μ = (varD i env μ).bind fun x μ => ofOpt μ (truD μ x) := rfl
theorem v_lrg {es : Es} : (den c (.lrg es)).1 env μ = (dens c es env μ).bind rngL := rfl
theorem v_rpr {a : E} : (den c (.rpr a)).1 env μ = ((den c a).1 env μ).bind fun x μ => (ofOpt μ (pyOk μ x)).bind fun p μ => .ok (.rep p) μ := rfl
theorem v_frz {a : E} : (den c (.frz a)).1 env μ = ((den c a).1 env μ).bind fun x μ => lift (frzD μ x) := rfl
theorem v_lcm {t : Tg} {s : Src} {cd : Eo} {e : E} {own : List (Str × Nat)} : (den c (.lcm t s cd e own)).1 env μ = (deni c s env μ).bind fun J μ => (lcD (lcTurn t (wipeD env (own.map (·.2))) (dent c cd) (den c e).1) (J.fuel c.wf) J [] μ).bind fun ds μ => .ok (.rol ds) μ := rfl
theorem n_nil : dens c .nil env μ = .ok [] μ := rfl
theorem n_cons {e : E} {es : Es} : dens c (.cons e es) env μ = ((den c e).1 env μ).bind fun d μ => (dens c es env μ).bind fun ds μ => .ok (d :: ds) μ := rfl
theorem f_nil : denf c .nil env μ = .ok [] μ := rfl
theorem f_cons {e : E} {es : Fs} : denf c (.cons e es) env μ = ((den c e).1 env μ).bind fun d μ => (denf c es env μ).bind fun ds μ => .ok (d :: ds) μ := rfl
theorem f_star {e : E} {es : Fs} : denf c (.star e es) env μ = ((den c e).1 env μ).bind fun d μ => (ofOpt μ (seqOf μ d)).bind fun xs μ => (denf c es env μ).bind fun ds μ => .ok (xs ++ ds) μ := rfl
theorem o_none : deno c .none env μ = .ok none μ := rfl
theorem o_some {e : E} : deno c (.some e) env μ = ((den c e).1 env μ).bind fun d μ => ofOpt μ (bndD d) := rfl
theorem i_seq {e : E} : deni c (.seq e) env μ = ((den c e).1 env μ).bind seqI := rfl
theorem i_rng1 {a : E} : deni c (.rng1 a) env μ = ((den c a).1 env μ).bind fun x μ => ofOpt μ (rngD [x]) := rfl
theorem i_rng2 {a b : E} : deni c (.rng2 a b) env μ = ((den c a).1 env μ).bind fun x μ => ((den c b).1 env μ).bind fun y μ => ofOpt μ (rngD [x, y]) := rfl
theorem i_zip {a b : E} : deni c (.zip a b) env μ = ((den c a).1 env μ).bind fun x μ => ((den c b).1 env μ).bind fun y μ => zipI x y μ := rfl
theorem i_enu {a : E} : deni c (.enu a) env μ = ((den c a).1 env μ).bind enuI := rfl
end
theorem var_0 {d : D} {r : En} {μ : Sto} : varD 0 (some d :: r) μ = .ok d μ := rfl
theorem var_s {d : Option D} {r : En} {μ : Sto} {n : Nat} : varD (n + 1) (d :: r) μ = varD n r μ := rfl
theorem cl_call {w : Nat} {f} : (Cl.mk w f).call = f := rfl
section
variable {i j : Int} {μ : Sto} {a b c d e f : D} {ds es : List D} {k : Bool}
theorem bAdd : binD .Add (.int i) (.int j) μ = some (.int (i + j), μ) := rfl
theorem bSub : binD .Sub (.int i) (.int j) μ = some (.int (i - j), μ) := rfl
theorem bMul (hi : i.natAbs < BIG) (hj : j.natAbs < BIG) : binD .Mult (.int i) (.int j) μ = some (.int (i * j), μ) := by
  show (if small i && small j then _ else _) = _
  rw [if_pos (by unfold small; rw [decide_eq_true hi, decide_eq_true hj]; rfl)]
theorem bDiv (h0 : j ≠ 0) (hj : j.natAbs < MID) : binD .FloorDiv (.int i) (.int j) μ = some (.int (i.fdiv j), μ) := by
  show (if decide (j ≠ 0) && mid j then _ else _) = _
  rw [if_pos (by unfold mid; rw [decide_eq_true h0, decide_eq_true hj]; rfl)]
theorem bMod (h0 : j ≠ 0) : binD .Mod (.int i) (.int j) μ = some (.int (i.fmod j), μ) := if_pos h0
theorem bPow (h0 : 0 ≤ j) (h1 : j ≤ 10000) (hi : i.natAbs < MID) : binD .Pow (.int i) (.int j) μ = some (.int (i ^ j.toNat), μ) := by
  show (if (decide (0 ≤ j) && decide (j ≤ 10000) && mid i) = true then some (D.int (i ^ j.toNat), μ) else none) = _
  rw [if_pos (by unfold mid; rw [decide_eq_true h0, decide_eq_true h1, decide_eq_true hi]; rfl)]
theorem bCat (h : ds.length + es.length ≤ LIM) : binD .Add (.rol ds) (.rol es) μ = some (.rol (ds ++ es), μ) := if_pos h
theorem bCatT (h : ds.length + es.length ≤ LIM) : binD .Add (.tup ds) (.tup es) μ = some (.tup (ds ++ es), μ) := if_pos h
theorem cLt : cmpD μ .Lt (.int i) (.int j) = some (decide (i < j)) := rfl
theorem cLe : cmpD μ .LtE (.int i) (.int j) = some (decide (i ≤ j)) := rfl
theorem cGt : cmpD μ .Gt (.int i) (.int j) = some (decide (j < i)) := rfl
theorem cGe : cmpD μ .GtE (.int i) (.int j) = some (decide (j ≤ i)) := rfl
theorem cEq : cmpD μ .Eq (.int i) (.int j) = some (decide (i = j)) := rfl
theorem cNe : cmpD μ .NotEq (.int i) (.int j) = some (!decide (i = j)) := rfl
theorem cEqS {x y : Str} : cmpD μ .Eq (.str x) (.str y) = some (decide (x = y)) := rfl
theorem cNeS {x y : Str} : cmpD μ .NotEq (.str x) (.str y) = some (!decide (x = y)) := rfl
theorem cEqR {p : PyData} : cmpD μ .Eq (.rep p) (.rep p) = some true := by
  show (if samePy p p then some true else none) = _
  rw [samePy_self, if_pos rfl]
theorem cNeR {p : PyData} : cmpD μ .NotEq (.rep p) (.rep p) = some false := by
  show (if samePy p p then some true else none).map not = _
  rw [samePy_self, if_pos rfl]
  rfl
theorem nNeg : negD (.int i) = some (.int (-i)) := rfl
theorem tBl : truD μ (.bl k) = some k := rfl
theorem tIn : truD μ (.int i) = some (i != 0) := rfl
theorem aAbs : bltD μ .abs [.int i] = some (.int (i.natAbs : Int), μ) := by
  show some (D.int (if i < 0 then -i else i), μ) = _
  have : (if i < 0 then -i else i) = (i.natAbs : Int) := by split <;> omega
  rw [this]
theorem aInt : bltD μ .int [.int i] = some (.int i, μ) := rfl
theorem aIntB : bltD μ .int [.bl k] = some (.int (b2i k), μ) := rfl
theorem aMin : bltD μ .min2 [.int i, .int j] = some (.int (if j < i then j else i), μ) := rfl
theorem aMax : bltD μ .max2 [.int i, .int j] = some (.int (if i < j then j else i), μ) := rfl
theorem aLenT : bltD μ .len [.tup ds] = some (.int ds.length, μ) := rfl
theorem aLenR : bltD μ .len [.rol ds] = some (.int ds.length, μ) := rfl
theorem aLenO {n : Nat} (h : μ.get n = some (.lst ds)) : bltD μ .len [.obj n] = some (.int ds.length, μ) := by
  show ((seqOf μ (.obj n)).map fun ds => (D.int ds.length, μ)) = _
  unfold seqOf
  simp only [h]
  rfl
theorem aTupT : bltD μ .tuple [.tup ds] = some (.tup ds, μ) := rfl
theorem aTupR : bltD μ .tuple [.rol ds] = some (.tup ds, μ) := rfl
theorem aLstR : bltD μ .list [.rol ds] = some (.rol ds, μ) := rfl
theorem aLstT : bltD μ .list [.tup ds] = some (.rol ds, μ) := rfl
theorem lq0 : (([] : List D).length ≤ LIM) = True := by simp [LIM]
theorem lq1 : ([a].length ≤ LIM) = True := by simp [LIM]
theorem lq2 : ([a, b].length ≤ LIM) = True := by simp [LIM]
theorem lq3 : ([a, b, c].length ≤ LIM) = True := by simp [LIM]
theorem lq4 : ([a, b, c, d].length ≤ LIM) = True := by simp [LIM]
theorem lq5 : ([a, b, c, d, e].length ≤ LIM) = True := by simp [LIM]
theorem lq6 : ([a, b, c, d, e, f].length ≤ LIM) = True := by simp [LIM]
theorem isiI {t : Ty} : isiD μ (.int i) t = some (isiS "int" t) := rfl
theorem isiB {t : Ty} : isiD μ (.bl k) t = some (isiS "bool" t) := rfl
theorem isiT {t : Ty} : isiD μ (.tup ds) t = some (isiS "tuple" t) := rfl
theorem isiL {t : Ty} : isiD μ (.rol ds) t = some (isiS "list" t) := rfl
theorem isiN {t : Ty} : isiD μ .non t = some (isiS "NoneType" t) := rfl
theorem isiSt {x : Str} {t : Ty} : isiD μ (.str x) t = some (isiS "str" t) := rfl
theorem isii : isiS "int" .int = true := by decide
theorem isib : isiS "int" .bool = false := by decide
theorem isitt : isiS "tuple" .tuple = true := by decide
theorem idxT : idxD μ (.tup ds) (.int i) = atI ds i := rfl
theorem idxR : idxD μ (.rol ds) (.int i) = atI ds i := rfl
theorem idxO {n : Nat} (h : μ.get n = some (.lst ds)) : idxD μ (.obj n) (.int i) = atI ds i := by
  show ((seqOf μ (.obj n)).bind fun ds => atI ds i) = _
  unfold seqOf
  simp only [h]
  rfl
theorem at20 : atI [a, b] 0 = some a := rfl
theorem at21 : atI [a, b] 1 = some b := rfl
theorem at2m : atI [a, b] (-1) = some b := rfl
theorem at30 : atI [a, b, c] 0 = some a := rfl
theorem at31 : atI [a, b, c] 1 = some b := rfl
theorem at32 : atI [a, b, c] 2 = some c := rfl
theorem at3m : atI [a, b, c] (-1) = some c := rfl
theorem at40 : atI [a, b, c, d] 0 = some a := rfl
theorem at41 : atI [a, b, c, d] 1 = some b := rfl
theorem at42 : atI [a, b, c, d] 2 = some c := rfl
theorem at43 : atI [a, b, c, d] 3 = some d := rfl
theorem at4m : atI [a, b, c, d] (-1) = some d := rfl
theorem seqT : seqI (.tup ds) μ = .ok (.itm ds) μ := rfl
theorem seqR : seqI (.rol ds) μ = .ok (.itm ds) μ := rfl
theorem seqO {n : Nat} (h : μ.get n = some (.lst ds)) : seqI (.obj n) μ = .ok (.lst n 0) μ := by
  unfold seqI seqOf; simp only [h]
theorem sqT : seqOf μ (.tup ds) = some ds := rfl
theorem sqR : seqOf μ (.rol ds) = some ds := rfl
theorem asT : asTup μ (.tup ds) = .tup ds := rfl
theorem asR : asTup μ (.rol ds) = .tup ds := rfl
theorem zipT : zipI (.tup ds) (.tup es) μ = .ok (.itm (zipD ds es)) μ := rfl
theorem zipR : zipI (.rol ds) (.rol es) μ = .ok (.itm (zipD ds es)) μ := rfl
theorem enuR : enuI (.rol ds) μ = .ok (.itm (enuD 0 ds)) μ := rfl
theorem g_nm {env : En} {n : Nat} : (Tg.nm n).set a env = some (env.set n (some a)) := by unfold Tg.set; rfl
theorem g_tp {env : En} {ts : List Tg} : (Tg.tp ts).set (.tup ds) env = Tg.sets ts ds env := by rw [Tg.set]
theorem g_nil {env : En} : Tg.sets [] [] env = some env := by unfold Tg.sets; rfl
theorem g_cons {env : En} {t : Tg} {ts : List Tg} : Tg.sets (t :: ts) (a :: ds) env = (t.set a env).bind fun env => Tg.sets ts ds env := by rw [Tg.sets]
theorem n_isN {ng : Bool} : isnD ng .non = !ng := rfl
theorem n_isT {ng : Bool} : isnD ng (.tup ds) = ng := rfl
theorem n_isI {ng : Bool} : isnD ng (.int i) = ng := rfl
theorem n_isL {ng : Bool} : isnD ng (.rol ds) = ng := rfl
theorem n_isS {ng : Bool} {x : Str} : isnD ng (.str x) = ng := rfl
theorem d_bnd : bndD (.int i) = some (some i) := rfl
end
/-! ### ifs -/
section
variable {p q : Prop} [Decidable p] [Decidable q] {μ : Sto} {α β : Type} {X Y : Out α} {k : α → Sto → Out β} {env : En}
theorem ib : (if p then X else Y).bind k = if p then X.bind k else Y.bind k := by split <;> rfl
theorem ist {k : α → Sto → Out Fl} : (if p then X else Y).stm env k = if p then X.stm env k else Y.stm env k := by split <;> rfl
theorem ifl {c : Cl} {r : List S} {X Y : Out Fl} : flowS c r (if p then X else Y) = if p then flowS c r X else flowS c r Y := by split <;> rfl
theorem iif {c : Cl} {env : En} {a b : List S} {X Y : Out Bool} : ifS c env a b (if p then X else Y) = if p then ifS c env a b X else ifS c env a b Y := by split <;> rfl
theorem ien {X Y : Out Fl} : endD (if p then X else Y) = if p then endD X else endD Y := by split <;> rfl
theorem icu {X Y : Out D} : cutS μ (if p then X else Y) = if p then cutS μ X else cutS μ Y := by split <;> rfl
theorem jI {x y : Int} : (if p then Out.ok (D.int x) μ else .ok (.int y) μ) = .ok (.int (if p then x else y)) μ := by split <;> rfl
theorem jB {x y : Bool} : (if p then Out.ok (D.bl x) μ else .ok (.bl y) μ) = .ok (.bl (if p then x else y)) μ := by split <;> rfl
theorem jT {x y : Bool} : (if p then Out.ok x μ else .ok y μ) = .ok (if p then x else y) μ := by split <;> rfl
theorem andB : (if p then decide q else false) = decide (p ∧ q) := by by_cases h : p <;> simp [h]
theorem orB : (if p then true else decide q) = decide (p ∨ q) := by by_cases h : p <;> simp [h]
theorem andC {b : Bool} : (if p then b else false) = decide (p ∧ b = true) := by by_cases h : p <;> simp [h]
theorem orC {b : Bool} : (if p then true else b) = decide (p ∨ b = true) := by by_cases h : p <;> simp [h]
theorem notB : (!decide p) = decide (¬ p) := by by_cases h : p <;> simp [h]
end
/-! ### objects -/
section
variable {μ : Sto} {n : Nat} {ds es : List D} {a b c v : D} {o : O}
theorem setO0 (h : μ.get n = some (.lst [a, b, c])) : setD μ (.obj n) (.int 0) v = some (μ.put n (.lst [v, b, c])) := by
  unfold setD; simp only [h]; rfl
theorem setO1 (h : μ.get n = some (.lst [a, b, c])) : setD μ (.obj n) (.int 1) v = some (μ.put n (.lst [a, v, c])) := by
  unfold setD; simp only [h]; rfl
theorem setO2 (h : μ.get n = some (.lst [a, b, c])) : setD μ (.obj n) (.int 2) v = some (μ.put n (.lst [a, b, v])) := by
  unfold setD; simp only [h]; rfl
theorem x_sub {cl : Cl} {env : En} {μ1 μ2 μ3 μ4 : Sto} {x k : D} {o i e : E} (he : (den cl e).1 env μ = .ok v μ1) (ho : (den cl o).1 env μ1 = .ok x μ2) (hi : (den cl i).1 env μ2 = .ok k μ3) (hs : setD μ3 x k v = some μ4) : exS cl (.sub o i e) env μ = .ok (.nx env) μ4 := by
  rw [s_sub, he]
  simp only [os, ho, hi, hs]
theorem frzO (h : μ.get n = some (.lst ds)) : frzD μ (.obj n) = some (.rol ds, μ.del n) := by
  unfold frzD; simp only [h]
theorem appO (h : μ.get n = some (.lst ds)) (hl : ds.length < LIM) : appD μ (.obj n) v = some (μ.put n (.lst (ds ++ [v]))) := by
  unfold appD; simp only [h]; rw [if_pos hl]
theorem exdR (h : μ.get n = some (.lst ds)) (hl : ds.length + es.length ≤ LIM) : exdD μ (.obj n) (.rol es) = some (μ.put n (.lst (ds ++ es))) := by
  unfold exdD; simp only [h]; rw [if_pos hl]
theorem objO (h : μ.get n = some (.lst ds)) : objL μ (.obj n) = true := by
  unfold objL; simp only [h]
end
/-! ### walks over items -/
/-- a walk over items, a list made -/
def mapD (f : D → Sto → Out (Option D)) : List D → List D → Sto → Out (List D)
  | [], acc, μ => .ok acc μ
  | d :: ds, acc, μ => match f d μ with
    | .ok (some x) μ' => if acc.length < LIM then mapD f ds (acc ++ [x]) μ' else .no
    | .ok none μ' => mapD f ds acc μ'
    | _ => .no
theorem lcD_itm (f : D → Sto → Out (Option D)) : ∀ (ds : List D) (acc : List D) (μ : Sto), lcD f (ds.length + 1) (.itm ds) acc μ = mapD f ds acc μ
  | [], acc, μ => rfl
  | d :: ds, acc, μ => by
    show (match f d μ with
      | .ok (some x) μ' => if acc.length < LIM then lcD f (ds.length + 1) (.itm ds) (acc ++ [x]) μ' else .no
      | .ok none μ' => lcD f (ds.length + 1) (.itm ds) acc μ'
      | _ => .no) = _
    unfold mapD
    cases f d μ with
    | ok o μ' =>
      cases o with
      | some x => simp only [lcD_itm f ds (acc ++ [x]) μ']
      | none => simp only [lcD_itm f ds acc μ']
    | exc c d μ' => rfl
    | no => rfl
theorem fuel_itm {wf : Nat} {ds : List D} : (Wk.itm ds).fuel wf = ds.length + 1 := rfl
/-- a walk over items, a body -/
def eachD (t : Tg) (b : Dd) : List D → En → Sto → Out Fl
  | [], env, μ => .ok (.nx env) μ
  | d :: ds, env, μ => match t.set d env with
    | none => .no
    | some env => match b env μ with
      | .ok (.nx env) μ => eachD t b ds env μ
      | .ok (.ct env) μ => eachD t b ds env μ
      | .ok (.bk env) μ => .ok (.nx env) μ
      | .ok (.rt d) μ => .ok (.rt d) μ
      | .ok (.ex c d env) μ => .ok (.ex c d env) μ
      | .exc c d μ => .exc c d μ
      | .no => .no
theorem forS_itm (t : Tg) (b : Dd) : ∀ (ds : List D) (env : En) (μ : Sto), forS t b (ds.length + 1) (.itm ds) env μ = eachD t b ds env μ
  | [], env, μ => rfl
  | d :: ds, env, μ => by
    show (match t.set d env with
      | none => Out.no
      | some env => (b env μ).bind fun f μ => match f with
        | .nx env => forS t b (ds.length + 1) (.itm ds) env μ
        | .ct env => forS t b (ds.length + 1) (.itm ds) env μ
        | .bk env => .ok (.nx env) μ
        | .rt d => .ok (.rt d) μ
        | .ex c d env => .ok (.ex c d env) μ) = _
    unfold eachD
    cases t.set d env with
    | none => rfl
    | some env' =>
      simp only
      cases b env' μ with
      | ok f μ' => cases f <;> simp only [Out.bind, forS_itm t b ds]
      | exc c d μ' => rfl
      | no => rfl
/-- items each of which gives one -/
theorem mapD_map {f : D → Sto → Out (Option D)} {g : D → D} {μ : Sto} : ∀ (ds acc : List D), (∀ d ∈ ds, f d μ = .ok (some (g d)) μ) → acc.length + ds.length ≤ LIM → mapD f ds acc μ = .ok (acc ++ ds.map g) μ
  | [], acc, _, _ => by unfold mapD; simp
  | d :: ds, acc, h, hl => by
    unfold mapD
    rw [h d List.mem_cons_self]
    rw [List.length_cons] at hl
    simp only
    rw [if_pos (by omega), mapD_map ds (acc ++ [g d]) (fun e he => h e (List.mem_cons_of_mem _ he)) (by rw [List.length_append]; show acc.length + 1 + _ ≤ _; omega)]
    simp
/-- typed items -/
theorem mapD_enc {α : Type} {f : D → Sto → Out (Option D)} {e : α → D} {g : α → D} {μ : Sto} (xs : List α) (h : ∀ x ∈ xs, f (e x) μ = .ok (some (g x)) μ) (hl : xs.length ≤ LIM) : mapD f (xs.map e) [] μ = .ok (xs.map g) μ := by
  have key : ∀ (xs : List α) (acc : List D), (∀ x ∈ xs, f (e x) μ = .ok (some (g x)) μ) → acc.length + xs.length ≤ LIM → mapD f (xs.map e) acc μ = .ok (acc ++ xs.map g) μ := by
    intro xs
    induction xs with
    | nil => intro acc _ _; simp [mapD]
    | cons x xs ih =>
      intro acc h hl
      rw [List.map_cons]
      unfold mapD
      rw [h x List.mem_cons_self]
      rw [List.length_cons] at hl
      simp only
      rw [if_pos (by omega), ih (acc ++ [g x]) (fun e he => h e (List.mem_cons_of_mem _ he)) (by rw [List.length_append]; show acc.length + 1 + _ ≤ _; omega)]
      simp
  have := key xs [] h (by simpa using hl)
  simpa using this
def mcont (f : D → Sto → Out (Option D)) (ds acc : List D) : Out (Option D) → Out (List D)
  | .ok (some x) μ => if acc.length < LIM then mapD f ds (acc ++ [x]) μ else .no
  | .ok none μ => mapD f ds acc μ
  | _ => .no
section
variable {f : D → Sto → Out (Option D)} {d x : D} {ds acc : List D} {μ : Sto} {p : Prop} [Decidable p] {X Y : Out (Option D)}
theorem m_nil : mapD f [] acc μ = .ok acc μ := rfl
theorem m_cons : mapD f (d :: ds) acc μ = mcont f ds acc (f d μ) := by
  unfold mapD mcont
  cases f d μ with
  | ok o μ' => cases o <;> rfl
  | exc c d μ' => rfl
  | no => rfl
theorem mc_some : mcont f ds acc (.ok (some x) μ) = if acc.length < LIM then mapD f ds (acc ++ [x]) μ else .no := rfl
theorem mc_none : mcont f ds acc (.ok none μ) = mapD f ds acc μ := rfl
theorem imc : mcont f ds acc (if p then X else Y) = if p then mcont f ds acc X else mcont f ds acc Y := by split <;> rfl
theorem lt_def {t : Tg} {env : En} {cd : Dt} {e : Dn} : lcTurn t env cd e d μ = (ofOpt μ (t.set d env)).bind fun env' μ => (cd env' μ).bind fun k μ => if k then (e env' μ).bind fun x μ => .ok (some x) μ else .ok none μ := rfl
theorem yes_def {env : En} : yesT env μ = .ok true μ := rfl
theorem dt_none {c : Cl} : dent c .none = yesT := rfl
theorem dt_some {c : Cl} {e : E} : dent c (.some e) = (den c e).2 := rfl
theorem w_nil {env : En} : wipeD env [] = env := rfl
theorem w_cons {env : En} {i : Nat} {is : List Nat} : wipeD env (i :: is) = (wipeD env is).set i none := rfl
theorem own_nil : ([] : List (Str × Nat)).map (·.2) = [] := rfl
theorem own_cons {x : Str} {i : Nat} {r : List (Str × Nat)} : ((x, i) :: r).map (·.2) = i :: r.map (·.2) := rfl
theorem z_nil {es : List D} : zipD [] es = [] := rfl
theorem z_nil2 {es : List D} : zipD es [] = [] := by cases es <;> rfl
theorem z_cons {a b : D} {es : List D} : zipD (a :: ds) (b :: es) = .tup [a, b] :: zipD ds es := rfl
theorem e_nil {i : Nat} : enuD i [] = [] := rfl
theorem e_cons {i : Nat} : enuD i (d :: ds) = .tup [.int i, d] :: enuD (i + 1) ds := rfl
theorem lk0 : (([] : List D).length < LIM) = True := by simp [LIM]
theorem lk1 {a : D} : ([a].length < LIM) = True := by simp [LIM]
theorem lk2 {a b : D} : ([a, b].length < LIM) = True := by simp [LIM]
theorem lk3 {a b c : D} : ([a, b, c].length < LIM) = True := by simp [LIM]
theorem lk4 {a b c e : D} : ([a, b, c, e].length < LIM) = True := by simp [LIM]
end
def econt (t : Tg) (b : Dd) (ds : List D) : Out Fl → Out Fl
  | .ok (.nx env) μ => eachD t b ds env μ
  | .ok (.ct env) μ => eachD t b ds env μ
  | .ok (.bk env) μ => .ok (.nx env) μ
  | .ok (.rt d) μ => .ok (.rt d) μ
  | .ok (.ex c d env) μ => .ok (.ex c d env) μ
  | .exc c d μ => .exc c d μ
  | .no => .no
section
variable {t : Tg} {b : Dd} {d : D} {ds : List D} {env env' : En} {μ : Sto} {p : Prop} [Decidable p] {X Y : Out Fl}
theorem ea_nil : eachD t b [] env μ = .ok (.nx env) μ := rfl
theorem ea_cons : eachD t b (d :: ds) env μ = (ofOpt μ (t.set d env)).bind fun env' μ => econt t b ds (b env' μ) := by
  rw [eachD]
  cases t.set d env with
  | none => rfl
  | some env' =>
    simp only [ofOpt, Out.bind]
    cases b env' μ with
    | ok f μ' => cases f <;> simp only [econt]
    | exc c d μ' => simp only [econt]
    | no => simp only [econt]
theorem ec_nx : econt t b ds (.ok (.nx env) μ) = eachD t b ds env μ := rfl
theorem ec_ct : econt t b ds (.ok (.ct env) μ) = eachD t b ds env μ := rfl
theorem ec_bk : econt t b ds (.ok (.bk env) μ) = .ok (.nx env) μ := rfl
theorem ec_rt : econt t b ds (.ok (.rt d) μ) = .ok (.rt d) μ := rfl
theorem iec : econt t b ds (if p then X else Y) = if p then econt t b ds X else econt t b ds Y := by split <;> rfl
end
/-- the items of a range -/
def rngI (lo : Int) : Nat → List D
  | 0 => []
  | n + 1 => .int lo :: rngI (lo + 1) n
theorem lcD_rng (f : D → Sto → Out (Option D)) : ∀ (n : Nat) (lo : Int) (acc : List D) (μ : Sto), lcD f (n + 1) (.rng lo n) acc μ = mapD f (rngI lo n) acc μ
  | 0, lo, acc, μ => rfl
  | n + 1, lo, acc, μ => by
    show (match f (.int lo) μ with
      | .ok (some x) μ' => if acc.length < LIM then lcD f (n + 1) (.rng (lo + 1) n) (acc ++ [x]) μ' else .no
      | .ok none μ' => lcD f (n + 1) (.rng (lo + 1) n) acc μ'
      | _ => .no) = mapD f (.int lo :: rngI (lo + 1) n) acc μ
    unfold mapD
    cases f (.int lo) μ with
    | ok o μ' =>
      cases o with
      | some x => simp only [lcD_rng f n]
      | none => simp only [lcD_rng f n]
    | exc c d μ' => rfl
    | no => rfl
theorem forS_rng (t : Tg) (b : Dd) : ∀ (n : Nat) (lo : Int) (env : En) (μ : Sto), forS t b (n + 1) (.rng lo n) env μ = eachD t b (rngI lo n) env μ
  | 0, lo, env, μ => rfl
  | n + 1, lo, env, μ => by
    show (match t.set (.int lo) env with
      | none => Out.no
      | some env => (b env μ).bind fun f μ => match f with
        | .nx env => forS t b (n + 1) (.rng (lo + 1) n) env μ
        | .ct env => forS t b (n + 1) (.rng (lo + 1) n) env μ
        | .bk env => .ok (.nx env) μ
        | .rt d => .ok (.rt d) μ
        | .ex c d env => .ok (.ex c d env) μ) = eachD t b (.int lo :: rngI (lo + 1) n) env μ
    unfold eachD
    cases t.set (.int lo) env with
    | none => rfl
    | some env' =>
      simp only
      cases b env' μ with
      | ok f μ' => cases f <;> simp only [Out.bind, forS_rng t b n]
      | exc c d μ' => rfl
      | no => rfl
theorem fuel_rng {wf : Nat} {lo : Int} {n : Nat} : (Wk.rng lo n).fuel wf = n + 1 := rfl
theorem rngD1 {j : Int} (h0 : 0 ≤ j) (h : j < 2 ^ 62) : rngD [.int j] = some (.rng 0 j.toNat) := by
  show (if decide (-(2 ^ 62) ≤ j) && decide (j < 2 ^ 62) then _ else _) = _
  rw [if_pos (by rw [decide_eq_true (show -(2 ^ 62) ≤ j by omega), decide_eq_true h]; rfl)]
theorem rngD2 {i j : Int} (h0 : 0 ≤ i) (hi : i < 2 ^ 62) (h0' : -(2 ^ 62) ≤ j) (h : j < 2 ^ 62) : rngD [.int i, .int j] = some (.rng i (j - i).toNat) := by
  show (if decide (-(2 ^ 62) ≤ i) && decide (i < 2 ^ 62) && (decide (-(2 ^ 62) ≤ j) && decide (j < 2 ^ 62)) then _ else _) = _
  rw [if_pos (by rw [decide_eq_true (show -(2 ^ 62) ≤ i by omega), decide_eq_true hi, decide_eq_true h0', decide_eq_true h]; rfl)]
theorem rng2 : rngD [.int 2] = some (.rng 0 2) := rfl
theorem rng3 : rngD [.int 3] = some (.rng 0 3) := rfl
theorem rng4 : rngD [.int 4] = some (.rng 0 4) := rfl
theorem rng8 : rngD [.int 8] = some (.rng 0 8) := rfl
theorem rngI2 : rngI 0 2 = [.int 0, .int 1] := rfl
theorem rngI3 : rngI 0 3 = [.int 0, .int 1, .int 2] := rfl
theorem rngI4 : rngI 0 4 = [.int 0, .int 1, .int 2, .int 3] := rfl
theorem rngI8 : rngI 0 8 = [.int 0, .int 1, .int 2, .int 3, .int 4, .int 5, .int 6, .int 7] := rfl
/-- a list of Trues -/
theorem mapD_yes {f : D → Sto → Out (Option D)} : ∀ (ds : List D) (k : Nat) (μ : Sto), (∀ d ∈ ds, ∀ μ, ∃ μ', f d μ = .ok (some (.bl true)) μ') → k + ds.length ≤ LIM → ∃ μ', mapD f ds (List.replicate k (.bl true)) μ = .ok (List.replicate (k + ds.length) (.bl true)) μ'
  | [], k, μ, _, _ => ⟨μ, rfl⟩
  | d :: ds, k, μ, h, hl => by
    obtain ⟨μ1, e1⟩ := h d List.mem_cons_self μ
    rw [List.length_cons] at hl
    obtain ⟨μ2, e2⟩ := mapD_yes ds (k + 1) μ1 (fun e he => h e (List.mem_cons_of_mem _ he)) (by omega)
    refine ⟨μ2, ?_⟩
    rw [m_cons, e1, mc_some, if_pos (by rw [List.length_replicate]; omega), ← List.replicate_succ', e2, List.length_cons, show k + 1 + ds.length = k + (ds.length + 1) by omega]
theorem mapD_yes0 {f : D → Sto → Out (Option D)} (ds : List D) (μ : Sto) (h : ∀ d ∈ ds, ∀ μ, ∃ μ', f d μ = .ok (some (.bl true)) μ') (hl : ds.length ≤ LIM) : ∃ μ', mapD f ds [] μ = .ok (List.replicate ds.length (.bl true)) μ' := by
  obtain ⟨μ', e⟩ := mapD_yes ds 0 μ h (by omega)
  exact ⟨μ', by rw [Nat.zero_add] at e; exact e⟩
theorem bls_rep : ∀ k : Nat, blsOf (List.replicate k (.bl true)) = some (List.replicate k true)
  | 0 => rfl
  | k + 1 => by rw [List.replicate_succ, List.replicate_succ]; unfold blsOf; rw [bls_rep k]; rfl
theorem all_yes {μ : Sto} {k : Nat} : bltD μ .all [.rol (List.replicate k (.bl true))] = some (.bl true, μ) := by
  show ((blsOf (List.replicate k (.bl true))).map fun bs => (D.bl (bs.all id), μ)) = _
  rw [bls_rep]
  simp
/-! ### all, any, max of lists -/
theorem aAll {μ : Sto} {ds : List D} {bs : List Bool} (h : blsOf ds = some bs) : bltD μ .all [.rol ds] = some (.bl (bs.all id), μ) := by
  show ((blsOf ds).map fun bs => (D.bl (bs.all id), μ)) = _
  rw [h]; rfl
theorem aAny {μ : Sto} {ds : List D} {bs : List Bool} (h : blsOf ds = some bs) : bltD μ .any [.rol ds] = some (.bl (bs.any id), μ) := by
  show ((blsOf ds).map fun bs => (D.bl (bs.any id), μ)) = _
  rw [h]; rfl
theorem all0 {μ : Sto} : bltD μ .all [.rol []] = some (.bl true, μ) := rfl
theorem all1 {μ : Sto} {a : Bool} : bltD μ .all [.rol [.bl a]] = some (.bl (a && true), μ) := rfl
theorem all2 {μ : Sto} {a b : Bool} : bltD μ .all [.rol [.bl a, .bl b]] = some (.bl (a && (b && true)), μ) := rfl
theorem all3 {μ : Sto} {a b c : Bool} : bltD μ .all [.rol [.bl a, .bl b, .bl c]] = some (.bl (a && (b && (c && true))), μ) := rfl
theorem sumR {μ : Sto} {ds : List D} {is : List Int} (h : intsOf ds = some is) : bltD μ .sum [.rol ds] = some (.int is.sum, μ) := by
  show ((intsOf ds).map fun ns => (D.int ns.sum, μ)) = _
  rw [h]; rfl
theorem ints_map (is : List Int) : intsOf (is.map .int) = some is := by
  induction is with
  | nil => rfl
  | cons i r ih => rw [List.map_cons]; unfold intsOf; rw [ih]; rfl
/-! ### more of lists -/
theorem cut_ex (μ μ' : Sto) (d : D) : ∃ μ2, cutS μ (.ok d μ') = .ok d μ2 := ⟨_, rfl⟩
theorem cut_new {μ : Sto} {o : O} : cutS μ (.ok (.obj μ.sz) (μ.push o)) = .ok (.obj μ.sz) (μ.push o) := by
  show Out.ok (D.obj μ.sz) (if cutOk μ (μ.push o) (.obj μ.sz) then (μ.push o).cut μ.sz else μ.push o) = _
  rw [if_neg]
  unfold cutOk closedD
  simp
theorem slcR {μ : Sto} {ds : List D} {lo hi : Option Int} : slcD μ lo hi (.rol ds) = some (.rol (cutD ds lo hi), μ) := rfl
theorem slcT {μ : Sto} {ds : List D} {lo hi : Option Int} : slcD μ lo hi (.tup ds) = some (.tup (cutD ds lo hi), μ) := rfl
theorem cutD_mem {ds : List D} {lo hi : Option Int} {d : D} (h : d ∈ cutD ds lo hi) : d ∈ ds := List.mem_of_mem_drop (List.mem_of_mem_take h)
theorem ints_all : ∀ l : List D, (∀ d ∈ l, ∃ i, d = .int i) → ∃ is, intsOf l = some is
  | [], _ => ⟨[], rfl⟩
  | d :: l, h => by
    obtain ⟨i, rfl⟩ := h d List.mem_cons_self
    obtain ⟨is, e⟩ := ints_all l fun e he => h e (List.mem_cons_of_mem _ he)
    exact ⟨i :: is, by unfold intsOf; rw [e]; rfl⟩
theorem rngL1 {μ : Sto} {j : Int} (h0 : 0 ≤ j) (h : j ≤ 100000) : rngL [.int j] μ = .ok (.rol ((List.range j.toNat).map fun i => .int (0 + (i : Nat)))) μ := by
  unfold rngL
  rw [rngD1 h0 (by omega)]
  simp only
  rw [if_pos (by omega)]
  rfl
theorem lim_dec (n : Nat) (h : n < 1000) : n ≤ LIM := by unfold LIM; omega
/-! ### step by step -/
section
variable {c : Cl} {s : S} {r : List S} {env env' : En} {μ0 μ μ' : Sto} {X : Out D}
theorem stp (h : exS c s env μ = .ok (.nx env') μ') (k : cutS μ0 (endD (exSs c r env' μ')) = X) : cutS μ0 (endD (exSs c (s :: r) env μ)) = X := by rw [q_cons, h, fl_nx]; exact k
theorem stpR {d : D} (h : exS c s env μ = .ok (.rt d) μ') (k : cutS μ0 (.ok d μ') = X) : cutS μ0 (endD (exSs c (s :: r) env μ)) = X := by rw [q_cons, h, fl_rt, en_rt]; exact k
end
/-! ### errors -/
section
variable {c : Cl} {env : En} {μ : Sto} {α β : Type} {d : D} {k x : Str}
theorem obx (f : α → Sto → Out β) : (Out.exc k d μ : Out α).bind f = .exc k d μ := rfl
theorem osx (f : α → Sto → Out Fl) : (Out.exc k d μ : Out α).stm env f = .ok (.ex k d env) μ := rfl
theorem s_rai {e : E} : exS c (.rai x e) env μ = ((den c e).1 env μ).stm env fun d μ => .ok (.ex x d env) μ := rfl
theorem fl_ex {r : List S} {e : En} : flowS c r (Out.ok (.ex k d e) μ) = .ok (.ex k d e) μ := rfl
theorem if_ex {a b : List S} : ifS c env a b (.exc k d μ) = .ok (.ex k d env) μ := rfl
theorem ec_ex {t : Tg} {b : Dd} {ds : List D} {e : En} : econt t b ds (.ok (.ex k d e) μ) = .ok (.ex k d e) μ := rfl
theorem en_ex {e : En} : endD (.ok (.ex k d e) μ) = .exc k d μ := rfl
theorem cut_samex : cutS μ (.exc k d μ) = .exc k d μ := by
  show Out.exc k d (if cutOk μ μ d then μ.cut μ.sz else μ) = _
  rw [Sto.cut_all]
  split <;> rfl
def hrdO (es : List Str) : Out D → Out D
  | .ok d μ => .ok (.tup [.non, d]) μ
  | .exc k d μ => if k ∈ es then .ok (.tup [.err k d, .non]) μ else .no
  | .no => .no
theorem v_hrd {es : List Str} {a : E} : (den c (.hrd es a)).1 env μ = hrdO es ((den c a).1 env μ) := by
  show hrdV es (den c a).1 env μ = _
  unfold hrdV
  cases (den c a).1 env μ <;> rfl
theorem hr_ok {es : List Str} : hrdO es (.ok d μ) = .ok (.tup [.non, d]) μ := rfl
theorem hr_ex {es : List Str} (h : decide (k ∈ es) = true) : hrdO es (.exc k d μ) = .ok (.tup [.err k d, .non]) μ := if_pos (of_decide_eq_true h)
theorem v_isE {es : List Str} {a : E} {all : Bool} : (den c (.isE es a x all)).1 env μ = ((den c a).1 env μ).bind fun d μ => ofOpt μ (isED es x all d) := rfl
theorem t_isE {es : List Str} {a : E} {all : Bool} : (den c (.isE es a x all)).2 env μ = ((den c (.isE es a x all)).1 env μ).bind fun d μ => ofOpt μ (truD μ d) := rfl
theorem isE_err {es : List Str} {all : Bool} (h : decide (k ∈ es) = true) : isED es x all (.err k d) = some (.bl (all || decide (k = x))) := if_pos (of_decide_eq_true h)
theorem v_fld {es : List Str} {a : E} : (den c (.fld es a)).1 env μ = ((den c a).1 env μ).bind fun d μ => ofOpt μ (fldD es d) := rfl
theorem fld_err {es : List Str} (h : decide (k ∈ es) = true) : fldD es (.err k d) = some d := if_pos (of_decide_eq_true h)
theorem v_isB {ng b : Bool} {a : E} : (den c (.isB ng b a)).1 env μ = ((den c a).1 env μ).bind fun d μ => ofOpt μ (isbD ng b d) := rfl
theorem t_isB {ng b : Bool} {a : E} : (den c (.isB ng b a)).2 env μ = ((den c (.isB ng b a)).1 env μ).bind fun d μ => ofOpt μ (truD μ d) := rfl
theorem isb_b {ng b b' : Bool} : isbD ng b (.bl b') = some (.bl (if ng then !decide (b' = b) else decide (b' = b))) := rfl
theorem v_rev {a : E} : (den c (.rev a)).1 env μ = ((den c a).1 env μ).bind fun d μ => lift (revD μ d) := rfl
theorem revR {ds : List D} : revD μ (.rol ds) = some (.rol ds.reverse, μ) := rfl
theorem n_isE {ng : Bool} {k : Str} : isnD ng (.err k d) = ng := rfl
end
end Rf


set_option Elab.async false
set_option linter.all false
set_option maxRecDepth 100000
set_option maxHeartbeats 2000000
/-! Rg, part M: bounds. -/
namespace Rf
theorem le_bd {i : Int} {a b : Nat} (hi : i.natAbs < 2 ^ a) (h : a ≤ b) : i.natAbs < 2 ^ b := Nat.lt_of_lt_of_le hi (Nat.pow_le_pow_right (by omega) h)
theorem lt_big {i : Int} {e : Nat} (h : i.natAbs < 2 ^ e) (he : e ≤ 1000000) : i.natAbs < BIG := by rw [BIG_eq]; exact le_bd h he
theorem lt_mid {i : Int} {e : Nat} (h : i.natAbs < 2 ^ e) (he : e ≤ 8000) : i.natAbs < MID := by rw [MID_eq]; exact le_bd h he
theorem mul_bd {i j : Int} {a b : Nat} (hi : i.natAbs < 2 ^ a) (hj : j.natAbs < 2 ^ b) : (i * j).natAbs < 2 ^ (a + b) := by
  rw [Int.natAbs_mul, Nat.pow_add]
  rcases Nat.eq_zero_or_pos j.natAbs with z | z
  · rw [z, Nat.mul_zero]; exact Nat.mul_pos (Nat.pow_pos (by omega)) (Nat.pow_pos (by omega))
  · exact Nat.lt_of_lt_of_le (Nat.mul_lt_mul_of_pos_right hi z) (Nat.mul_le_mul_left _ (Nat.le_of_lt hj))
theorem add_bd {i j : Int} {a b : Nat} (hi : i.natAbs < 2 ^ a) (hj : j.natAbs < 2 ^ b) : (i + j).natAbs < 2 ^ (max a b + 1) := by
  have h1 : 2 ^ a ≤ 2 ^ (max a b) := Nat.pow_le_pow_right (by omega) (Nat.le_max_left _ _)
  have h2 : 2 ^ b ≤ 2 ^ (max a b) := Nat.pow_le_pow_right (by omega) (Nat.le_max_right _ _)
  rw [Nat.pow_succ]
  omega
theorem sub_bd {i j : Int} {a b : Nat} (hi : i.natAbs < 2 ^ a) (hj : j.natAbs < 2 ^ b) : (i - j).natAbs < 2 ^ (max a b + 1) := by
  have h := add_bd hi (show (-j).natAbs < 2 ^ b by omega)
  rwa [← Int.sub_eq_add_neg] at h
theorem neg_bd {i : Int} {a : Nat} (hi : i.natAbs < 2 ^ a) : (-i).natAbs < 2 ^ a := by omega
theorem nab_bd {i : Int} {a : Nat} (hi : i.natAbs < 2 ^ a) : ((i.natAbs : Nat) : Int).natAbs < 2 ^ a := by omega
theorem lt_WF {n e : Nat} (h : n < 2 ^ e) (he : e ≤ 1000000) : n < WF := Nat.lt_of_lt_of_le h (Nat.le_trans (Nat.pow_le_pow_right (by omega) he) WF_ge)
theorem bigW {i : Int} {e : Nat} (h : i.natAbs < 2 ^ e) (he : e ≤ 1000000) : i.natAbs < WF := lt_WF h he
theorem WF_big : ∃ k, WF = k + 1000 := ⟨WF - 1000, by have : 1000 < WF := lt_WF (e := 10) (by decide) (by decide); omega⟩
end Rf


set_option Elab.async false
set_option linter.all false
set_option maxRecDepth 100000
set_option maxHeartbeats 1000000
/-! Rf, part N: fractions, points in plain numbers. -/
namespace Rf
/-- two fractions of one value -/
structure Q (n d m e : Int) : Prop where
  dn : d ≠ 0
  en : e ≠ 0
  eq : n * e = m * d
theorem Q.symm {n d m e : Int} (h : Q n d m e) : Q m e n d := ⟨h.en, h.dn, h.eq.symm⟩
theorem Q.trans {n d m e k f : Int} (h : Q n d m e) (g : Q m e k f) : Q n d k f := by
  refine ⟨h.dn, g.en, Int.eq_of_mul_eq_mul_right h.en ?_⟩
  have h1 := h.eq
  have h2 := g.eq
  calc n * f * e = n * e * f := by grind
    _ = m * d * f := by rw [h1]
    _ = m * f * d := by grind
    _ = k * e * d := by rw [h2]
    _ = k * d * e := by grind
theorem Q.self {n d : Int} (h : d ≠ 0) : Q n d n d := ⟨h, h, rfl⟩
theorem Q.add {n1 d1 m1 e1 n2 d2 m2 e2 : Int} (h : Q n1 d1 m1 e1) (g : Q n2 d2 m2 e2) : Q (n1 * d2 + n2 * d1) (d1 * d2) (m1 * e2 + m2 * e1) (e1 * e2) := by
  refine ⟨Int.mul_ne_zero h.dn g.dn, Int.mul_ne_zero h.en g.en, ?_⟩
  have h1 := h.eq
  have h2 := g.eq
  grind
theorem Q.sub {n1 d1 m1 e1 n2 d2 m2 e2 : Int} (h : Q n1 d1 m1 e1) (g : Q n2 d2 m2 e2) : Q (n1 * d2 - n2 * d1) (d1 * d2) (m1 * e2 - m2 * e1) (e1 * e2) := by
  refine ⟨Int.mul_ne_zero h.dn g.dn, Int.mul_ne_zero h.en g.en, ?_⟩
  have h1 := h.eq
  have h2 := g.eq
  grind
theorem Q.mul {n1 d1 m1 e1 n2 d2 m2 e2 : Int} (h : Q n1 d1 m1 e1) (g : Q n2 d2 m2 e2) : Q (n1 * n2) (d1 * d2) (m1 * m2) (e1 * e2) := by
  refine ⟨Int.mul_ne_zero h.dn g.dn, Int.mul_ne_zero h.en g.en, ?_⟩
  have h1 := h.eq
  have h2 := g.eq
  grind
/-- the mix of two values by a share -/
theorem Q.mix {s e s' e' u v u' v' U V U' V' : Int} (h : Q s e s' e') (g : Q u v u' v') (k : Q U V U' V') :
    Q ((e - s) * u * V + s * U * v) (e * v * V) ((e' - s') * u' * V' + s' * U' * v') (e' * v' * V') := by
  refine ⟨Int.mul_ne_zero (Int.mul_ne_zero h.dn g.dn) k.dn, Int.mul_ne_zero (Int.mul_ne_zero h.en g.en) k.en, ?_⟩
  have h1 := h.eq
  have h2 := g.eq
  have h3 := k.eq
  have a1 : (e - s) * e' = (e' - s') * e := by grind
  calc ((e - s) * u * V + s * U * v) * (e' * v' * V') = ((e - s) * e') * (u * v') * (V * V') + (s * e') * (U * V') * (v * v') := by grind
    _ = ((e' - s') * e) * (u' * v) * (V * V') + (s' * e) * (U' * V) * (v * v') := by rw [a1, h1, h2, h3]
    _ = _ := by grind

/-! ### least terms -/
def sg (b g : Int) : Int := if 0 < b then g else -g
def frc (t b : Int) : Int × Int := (t.fdiv (sg b (Int.gcd t b)), b.fdiv (sg b (Int.gcd t b)))
structure Red (p : Int × Int) : Prop where
  pos : 0 < p.2
  gcd : Int.gcd p.1 p.2 = 1
theorem sg_abs (b g : Int) : (sg b g).natAbs = g.natAbs := by unfold sg; split <;> omega
theorem sg_dvd {b g x : Int} (h : g ∣ x) : ∃ u, x = sg b g * u := by
  obtain ⟨u, rfl⟩ := h
  unfold sg
  split
  · exact ⟨u, rfl⟩
  · exact ⟨-u, by rw [Int.neg_mul_neg]⟩
theorem sg_ne {b g : Int} (h : g ≠ 0) : sg b g ≠ 0 := by unfold sg; split <;> omega
theorem sg_pos {b g u : Int} (hb : b ≠ 0) (hg : 0 < g) (e : b = sg b g * u) : 0 < u := by
  unfold sg at e
  split at e
  · rename_i h
    rw [e] at h
    exact Int.pos_of_mul_pos_right h hg |> fun z => z
  · rename_i h
    have hn : b < 0 := by omega
    rcases Int.lt_trichotomy u 0 with z | z | z
    · have : 0 < g * -u := Int.mul_pos hg (by omega)
      rw [Int.mul_neg, ← Int.neg_mul, ← e] at this
      omega
    · subst z; simp at e; omega
    · exact z
theorem abs_le_mul {a u : Int} (h : a ≠ 0) : u.natAbs ≤ (a * u).natAbs := by
  rw [Int.natAbs_mul]
  exact Nat.le_mul_of_pos_left _ (by omega)
theorem frc_spec {t b : Int} (hb : b ≠ 0) : Red (frc t b) ∧ Q (frc t b).1 (frc t b).2 t b ∧ (frc t b).1.natAbs ≤ t.natAbs ∧ (frc t b).2.natAbs ≤ b.natAbs := by
  have hg : (0 : Int) < (Int.gcd t b : Int) := by
    have := Int.gcd_pos_of_ne_zero_right t hb
    omega
  have hs := sg_ne (b := b) (show (Int.gcd t b : Int) ≠ 0 by omega)
  obtain ⟨u, hu⟩ := sg_dvd (b := b) (Int.gcd_dvd_left t b)
  obtain ⟨v, hv⟩ := sg_dvd (b := b) (Int.gcd_dvd_right t b)
  have hvp := sg_pos hb hg hv
  have e1 : (frc t b).1 = u := by
    show t.fdiv (sg b (Int.gcd t b)) = u
    generalize sg b (Int.gcd t b) = s at *
    rw [hu]; exact Int.mul_fdiv_cancel_left _ hs
  have e2 : (frc t b).2 = v := by
    show b.fdiv (sg b (Int.gcd t b)) = v
    generalize sg b (Int.gcd t b) = s at *
    rw [hv]; exact Int.mul_fdiv_cancel_left _ hs
  have hgc : Int.gcd u v = 1 := by
    have h1 : Int.gcd t b = (sg b (Int.gcd t b)).natAbs * Int.gcd u v := by
      rw [← Int.gcd_mul_left, ← hu, ← hv]
    rw [sg_abs, Int.natAbs_natCast] at h1
    have h2 : 0 < Int.gcd t b := by omega
    exact (Nat.mul_right_cancel (m := Int.gcd t b) h2 (by rw [Nat.one_mul, Nat.mul_comm]; exact h1)).symm
  refine ⟨⟨by rw [e2]; exact hvp, by rw [e1, e2]; exact hgc⟩, ⟨by rw [e2]; omega, hb, ?_⟩, ?_, ?_⟩
  · rw [e1, e2]
    calc u * b = u * (sg b (Int.gcd t b) * v) := by rw [← hv]
      _ = (sg b (Int.gcd t b) * u) * v := by grind
      _ = t * v := by rw [← hu]
  · rw [e1]
    have := abs_le_mul (u := u) hs
    rwa [← hu] at this
  · rw [e2]
    have := abs_le_mul (u := v) hs
    rwa [← hv] at this
/-! ### points -/
def g3 (x y z : Int) : Nat := Int.gcd (Int.gcd x y) z
structure Nm (x y z : Int) : Prop where
  pos : 0 < z
  gcd : g3 x y z = 1
def nrm (x y b : Int) : Int × Int × Int := (x.fdiv (sg b (g3 x y b)), y.fdiv (sg b (g3 x y b)), b.fdiv (sg b (g3 x y b)))
theorem g3_mul (s u v w : Int) : g3 (s * u) (s * v) (s * w) = s.natAbs * g3 u v w := by
  unfold g3
  rw [Int.gcd_mul_left]
  have e : ((s.natAbs * Int.gcd u v : Nat) : Int) = (s.natAbs : Int) * (Int.gcd u v : Int) := by simp
  show Nat.gcd _ _ = _
  rw [Int.natAbs_natCast, Int.natAbs_mul, Nat.gcd_mul_left]
  rfl
theorem g3_dvd (x y z : Int) : (g3 x y z : Int) ∣ x ∧ (g3 x y z : Int) ∣ y ∧ (g3 x y z : Int) ∣ z := by
  have h1 : (g3 x y z : Int) ∣ (Int.gcd x y : Int) := Int.gcd_dvd_left _ _
  exact ⟨Int.dvd_trans h1 (Int.gcd_dvd_left x y), Int.dvd_trans h1 (Int.gcd_dvd_right x y), Int.gcd_dvd_right _ _⟩
theorem dvd_g3 {k x y z : Int} (h1 : k ∣ x) (h2 : k ∣ y) (h3 : k ∣ z) : k ∣ (g3 x y z : Int) := Int.dvd_coe_gcd (Int.dvd_coe_gcd h1 h2) h3
theorem nrm_spec {x y b : Int} (hb : b ≠ 0) : Nm (nrm x y b).1 (nrm x y b).2.1 (nrm x y b).2.2 ∧ Q (nrm x y b).1 (nrm x y b).2.2 x b ∧ Q (nrm x y b).2.1 (nrm x y b).2.2 y b ∧
    (nrm x y b).1.natAbs ≤ x.natAbs ∧ (nrm x y b).2.1.natAbs ≤ y.natAbs ∧ (nrm x y b).2.2.natAbs ≤ b.natAbs := by
  have hg0 : 0 < g3 x y b := Int.gcd_pos_of_ne_zero_right _ hb
  have hg : (0 : Int) < (g3 x y b : Int) := by omega
  have hs := sg_ne (b := b) (show (g3 x y b : Int) ≠ 0 by omega)
  obtain ⟨d1, d2, d3⟩ := g3_dvd x y b
  obtain ⟨u, hu⟩ := sg_dvd (b := b) d1
  obtain ⟨v, hv⟩ := sg_dvd (b := b) d2
  obtain ⟨w, hw⟩ := sg_dvd (b := b) d3
  have hwp := sg_pos hb hg hw
  have e1 : (nrm x y b).1 = u := by
    show x.fdiv (sg b (g3 x y b)) = u
    generalize sg b (g3 x y b) = s at *
    rw [hu]; exact Int.mul_fdiv_cancel_left _ hs
  have e2 : (nrm x y b).2.1 = v := by
    show y.fdiv (sg b (g3 x y b)) = v
    generalize sg b (g3 x y b) = s at *
    rw [hv]; exact Int.mul_fdiv_cancel_left _ hs
  have e3 : (nrm x y b).2.2 = w := by
    show b.fdiv (sg b (g3 x y b)) = w
    generalize sg b (g3 x y b) = s at *
    rw [hw]; exact Int.mul_fdiv_cancel_left _ hs
  rw [e1, e2, e3]
  have hgc : g3 u v w = 1 := by
    have h1 : g3 x y b = (sg b (g3 x y b)).natAbs * g3 u v w := by
      rw [← g3_mul, ← hu, ← hv, ← hw]
    rw [sg_abs, Int.natAbs_natCast] at h1
    exact (Nat.mul_right_cancel (m := g3 x y b) hg0 (by rw [Nat.one_mul, Nat.mul_comm]; exact h1)).symm
  refine ⟨⟨hwp, hgc⟩, ⟨by omega, hb, ?_⟩, ⟨by omega, hb, ?_⟩, ?_, ?_, ?_⟩
  · calc u * b = u * (sg b (g3 x y b) * w) := by rw [← hw]
      _ = (sg b (g3 x y b) * u) * w := by grind
      _ = x * w := by rw [← hu]
  · calc v * b = v * (sg b (g3 x y b) * w) := by rw [← hw]
      _ = (sg b (g3 x y b) * v) * w := by grind
      _ = y * w := by rw [← hv]
  · have := abs_le_mul (u := u) hs
    rwa [← hu] at this
  · have := abs_le_mul (u := v) hs
    rwa [← hv] at this
  · have := abs_le_mul (u := w) hs
    rwa [← hw] at this
theorem nm_dvd {x y z x' y' z' : Int} (h : Nm x y z) (h' : Nm x' y' z') (e1 : x * z' = x' * z) (e2 : y * z' = y' * z) : z ∣ z' := by
  have k : z ∣ (g3 (z' * x) (z' * y) (z' * z) : Int) := dvd_g3 ⟨x', by grind⟩ ⟨y', by grind⟩ ⟨z', by grind⟩
  rw [g3_mul, h.gcd, Nat.mul_one, Int.natAbs_of_nonneg (by have := h'.pos; omega)] at k
  exact k
/-- a point has one normal form -/
theorem nm_unique {x y z x' y' z' : Int} (h : Nm x y z) (h' : Nm x' y' z') (q1 : Q x z x' z') (q2 : Q y z y' z') : x = x' ∧ y = y' ∧ z = z' := by
  have a := nm_dvd h h' q1.eq q2.eq
  have b := nm_dvd h' h q1.eq.symm q2.eq.symm
  have e : z = z' := Int.dvd_antisymm (by have := h.pos; omega) (by have := h'.pos; omega) a b
  subst e
  exact ⟨Int.eq_of_mul_eq_mul_right q1.dn q1.eq, Int.eq_of_mul_eq_mul_right q2.dn q2.eq, rfl⟩
/-- a point told by two fractions -/
def told (p q : Int × Int) : Int × Int × Int := (p.1 * q.2.fdiv (Int.gcd p.2 q.2), q.1 * p.2.fdiv (Int.gcd p.2 q.2), p.2.fdiv (Int.gcd p.2 q.2) * q.2)
theorem told_spec {p q : Int × Int} (hp : Red p) (hq : Red q) : Nm (told p q).1 (told p q).2.1 (told p q).2.2 ∧ Q (told p q).1 (told p q).2.2 p.1 p.2 ∧ Q (told p q).2.1 (told p q).2.2 q.1 q.2 := by
  obtain ⟨x, lo⟩ := p
  obtain ⟨y, hi⟩ := q
  have lp : 0 < lo := hp.pos
  have hpz : 0 < hi := hq.pos
  have cx : Int.gcd x lo = 1 := hp.gcd
  have cy : Int.gcd y hi = 1 := hq.gcd
  have hg0 : 0 < Int.gcd lo hi := Int.gcd_pos_of_ne_zero_right _ (by omega)
  have hg : (Int.gcd lo hi : Int) ≠ 0 := by omega
  obtain ⟨l, hl⟩ := Int.gcd_dvd_left lo hi
  obtain ⟨h, hh⟩ := Int.gcd_dvd_right lo hi
  have el : lo.fdiv (Int.gcd lo hi) = l := by
    generalize hgg : (Int.gcd lo hi : Int) = g at *
    rw [hl]; exact Int.mul_fdiv_cancel_left _ hg
  have eh : hi.fdiv (Int.gcd lo hi) = h := by
    generalize hgg : (Int.gcd lo hi : Int) = g at *
    rw [hh]; exact Int.mul_fdiv_cancel_left _ hg
  have ct : told (x, lo) (y, hi) = (x * h, y * l, l * hi) := by
    show (x * hi.fdiv (Int.gcd lo hi), y * lo.fdiv (Int.gcd lo hi), lo.fdiv (Int.gcd lo hi) * hi) = _
    rw [el, eh]
  have clh : Int.gcd l h = 1 := by
    have h1 : Int.gcd lo hi = ((Int.gcd lo hi : Int)).natAbs * Int.gcd l h := by
      rw [← Int.gcd_mul_left, ← hl, ← hh]
    rw [Int.natAbs_natCast] at h1
    exact (Nat.mul_right_cancel (m := Int.gcd lo hi) hg0 (by rw [Nat.one_mul, Nat.mul_comm]; exact h1)).symm
  have hlp : 0 < l := by
    have : 0 < (Int.gcd lo hi : Int) * l := by rw [← hl]; exact lp
    exact Int.pos_of_mul_pos_right this (by omega)
  rw [ct]
  have zp : 0 < l * hi := Int.mul_pos hlp hpz
  refine ⟨⟨zp, ?_⟩, ⟨by show l * hi ≠ 0; omega, by show lo ≠ 0; omega, ?_⟩, ⟨by show l * hi ≠ 0; omega, by show hi ≠ 0; omega, ?_⟩⟩
  · -- no common part
    obtain ⟨k1, k2, k3⟩ := g3_dvd (x * h) (y * l) (l * hi)
    show g3 (x * h) (y * l) (l * hi) = 1
    generalize g3 (x * h) (y * l) (l * hi) = d at *
    have n1 : d ∣ x.natAbs * h.natAbs := by rw [← Int.natAbs_mul]; exact Int.ofNat_dvd_left.mp k1
    have n2 : d ∣ y.natAbs * l.natAbs := by rw [← Int.natAbs_mul]; exact Int.ofNat_dvd_left.mp k2
    have n3 : d ∣ l.natAbs * hi.natAbs := by rw [← Int.natAbs_mul]; exact Int.ofNat_dvd_left.mp k3
    have eh' : hi.natAbs = Int.gcd lo hi * h.natAbs := by
      have := congrArg Int.natAbs hh
      rw [Int.natAbs_mul, Int.natAbs_natCast] at this
      exact this
    have el' : lo.natAbs = Int.gcd lo hi * l.natAbs := by
      have := congrArg Int.natAbs hl
      rw [Int.natAbs_mul, Int.natAbs_natCast] at this
      exact this
    have cdh : Nat.Coprime d h.natAbs := by
      have e1 : Nat.gcd d h.natAbs ∣ y.natAbs := by
        have a1 : Nat.Coprime (Nat.gcd d h.natAbs) l.natAbs := Nat.Coprime.coprime_dvd_left (Nat.gcd_dvd_right _ _) (show Nat.Coprime h.natAbs l.natAbs from Nat.Coprime.symm clh)
        exact a1.dvd_of_dvd_mul_right (Nat.dvd_trans (Nat.gcd_dvd_left _ _) n2)
      have e2 : Nat.gcd d h.natAbs ∣ hi.natAbs := by rw [eh']; exact Nat.dvd_trans (Nat.gcd_dvd_right _ _) (Nat.dvd_mul_left _ _)
      have e3 := Nat.dvd_gcd e1 e2
      rw [show Nat.gcd y.natAbs hi.natAbs = 1 from cy] at e3
      exact Nat.dvd_one.mp e3
    have m1 : d ∣ x.natAbs := cdh.dvd_of_dvd_mul_right n1
    have m2 : d ∣ lo.natAbs := by
      rw [el']
      refine cdh.dvd_of_dvd_mul_right ?_
      rw [eh'] at n3
      have : l.natAbs * (Int.gcd lo hi * h.natAbs) = Int.gcd lo hi * l.natAbs * h.natAbs := by
        rw [← Nat.mul_assoc, Nat.mul_comm l.natAbs]
      rwa [this] at n3
    have m3 := Nat.dvd_gcd m1 m2
    rw [show Nat.gcd x.natAbs lo.natAbs = 1 from cx] at m3
    exact Nat.dvd_one.mp m3
  · show x * h * lo = x * (l * hi)
    have : h * lo = l * hi := by
      calc h * lo = h * ((Int.gcd lo hi : Int) * l) := by rw [← hl]
        _ = l * ((Int.gcd lo hi : Int) * h) := by grind
        _ = l * hi := by rw [← hh]
    rw [Int.mul_assoc, this]
  · show y * l * hi = y * (l * hi)
    rw [Int.mul_assoc]
end Rf


set_option Elab.async false
set_option linter.all false
set_option maxRecDepth 100000
set_option maxHeartbeats 2000000
/-! Rf, part P: points between points, in plain numbers. -/
namespace Rf
abbrev Fr := Int × Int
abbrev P3 := Int × Int × Int
def NmP (A : P3) : Prop := Nm A.1 A.2.1 A.2.2
def mixn (s e u v U V : Int) : Int := (e - s) * u * V + s * U * v
def btw (A B : P3) (s : Fr) : P3 := nrm (mixn s.1 s.2 A.1 A.2.2 B.1 B.2.2) (mixn s.1 s.2 A.2.1 A.2.2 B.2.1 B.2.2) (s.2 * A.2.2 * B.2.2)
def pls (p q : Fr) : Fr := frc (p.1 * q.2 + q.1 * p.2) (p.2 * q.2)
def lss (p q : Fr) : Fr := frc (p.1 * q.2 - q.1 * p.2) (p.2 * q.2)
def tms (p q : Fr) : Fr := frc (p.1 * q.1) (p.2 * q.2)
def lawpt (a b : Fr × Fr) (s : Fr) : Fr × Fr := (pls a.1 (tms s (lss b.1 a.1)), pls a.2 (tms s (lss b.2 a.2)))
def toldP (a : Fr × Fr) : P3 := told a.1 a.2
def RedP (a : Fr × Fr) : Prop := Red a.1 ∧ Red a.2
theorem nmP_eq {A B : P3} (h : NmP A) (g : NmP B) (q1 : Q A.1 A.2.2 B.1 B.2.2) (q2 : Q A.2.1 A.2.2 B.2.1 B.2.2) : A = B := by
  obtain ⟨a, b, c⟩ := A
  obtain ⟨x, y, z⟩ := B
  obtain ⟨e1, e2, e3⟩ := nm_unique h g q1 q2
  have e1 : a = x := e1
  have e2 : b = y := e2
  have e3 : c = z := e3
  rw [e1, e2, e3]
theorem btw_ne {A B : P3} {s : Fr} (hA : NmP A) (hB : NmP B) (hs : s.2 ≠ 0) : s.2 * A.2.2 * B.2.2 ≠ 0 :=
  Int.mul_ne_zero (Int.mul_ne_zero hs (by have := hA.pos; omega)) (by have := hB.pos; omega)
theorem btw_nm {A B : P3} {s : Fr} (hA : NmP A) (hB : NmP B) (hs : s.2 ≠ 0) : NmP (btw A B s) := (nrm_spec (btw_ne hA hB hs)).1
theorem btw_q {A B : P3} {s : Fr} (hA : NmP A) (hB : NmP B) (hs : s.2 ≠ 0) :
    Q (btw A B s).1 (btw A B s).2.2 (mixn s.1 s.2 A.1 A.2.2 B.1 B.2.2) (s.2 * A.2.2 * B.2.2) ∧ Q (btw A B s).2.1 (btw A B s).2.2 (mixn s.1 s.2 A.2.1 A.2.2 B.2.1 B.2.2) (s.2 * A.2.2 * B.2.2) :=
  ⟨(nrm_spec (btw_ne hA hB hs)).2.1, (nrm_spec (btw_ne hA hB hs)).2.2.1⟩
theorem nmP_ne {A : P3} (h : NmP A) : A.2.2 ≠ 0 := by have := h.pos; omega
theorem red_ne {p : Fr} (h : Red p) : p.2 ≠ 0 := by have := h.pos; omega
theorem pls_ok {p q : Fr} (hp : p.2 ≠ 0) (hq : q.2 ≠ 0) : Red (pls p q) ∧ Q (pls p q).1 (pls p q).2 (p.1 * q.2 + q.1 * p.2) (p.2 * q.2) :=
  ⟨(frc_spec (Int.mul_ne_zero hp hq)).1, (frc_spec (Int.mul_ne_zero hp hq)).2.1⟩
theorem lss_ok {p q : Fr} (hp : p.2 ≠ 0) (hq : q.2 ≠ 0) : Red (lss p q) ∧ Q (lss p q).1 (lss p q).2 (p.1 * q.2 - q.1 * p.2) (p.2 * q.2) :=
  ⟨(frc_spec (Int.mul_ne_zero hp hq)).1, (frc_spec (Int.mul_ne_zero hp hq)).2.1⟩
theorem tms_ok {p q : Fr} (hp : p.2 ≠ 0) (hq : q.2 ≠ 0) : Red (tms p q) ∧ Q (tms p q).1 (tms p q).2 (p.1 * q.1) (p.2 * q.2) :=
  ⟨(frc_spec (Int.mul_ne_zero hp hq)).1, (frc_spec (Int.mul_ne_zero hp hq)).2.1⟩
/-- one coordinate of the law's own point -/
theorem step_q {x y s : Fr} (hx : x.2 ≠ 0) (hy : y.2 ≠ 0) (hs : s.2 ≠ 0) : Q (pls x (tms s (lss y x))).1 (pls x (tms s (lss y x))).2 (mixn s.1 s.2 x.1 x.2 y.1 y.2) (s.2 * x.2 * y.2) := by
  obtain ⟨r1, q1⟩ := lss_ok hy hx
  have n1 := red_ne r1
  obtain ⟨r2, q2⟩ := tms_ok hs n1
  have n2 := red_ne r2
  obtain ⟨r3, q3⟩ := pls_ok hx n2
  have a1 := q2.trans (Q.mul (Q.self (n := s.1) hs) q1)
  have a2 := q3.trans (Q.add (Q.self (n := x.1) hx) a1)
  refine a2.trans ⟨a2.en, Int.mul_ne_zero (Int.mul_ne_zero hs hx) hy, ?_⟩
  unfold mixn
  grind
theorem lawpt_red {a b : Fr × Fr} {s : Fr} (ha : RedP a) (hb : RedP b) (hs : s.2 ≠ 0) : RedP (lawpt a b s) :=
  ⟨(pls_ok (red_ne ha.1) (red_ne (tms_ok hs (red_ne (lss_ok (red_ne hb.1) (red_ne ha.1)).1)).1)).1, (pls_ok (red_ne ha.2) (red_ne (tms_ok hs (red_ne (lss_ok (red_ne hb.2) (red_ne ha.2)).1)).1)).1⟩
theorem toldP_ok {a : Fr × Fr} (h : RedP a) : NmP (toldP a) ∧ Q (toldP a).1 (toldP a).2.2 a.1.1 a.1.2 ∧ Q (toldP a).2.1 (toldP a).2.2 a.2.1 a.2.2 := told_spec h.1 h.2
/-- between tells the law's own point -/
theorem K1 {a b : Fr × Fr} {s : Fr} (ha : RedP a) (hb : RedP b) (hs : s.2 ≠ 0) : btw (toldP a) (toldP b) s = toldP (lawpt a b s) := by
  obtain ⟨nA, a1, a2⟩ := toldP_ok ha
  obtain ⟨nB, b1, b2⟩ := toldP_ok hb
  obtain ⟨nC, c1, c2⟩ := toldP_ok (lawpt_red ha hb hs)
  obtain ⟨d1, d2⟩ := btw_q nA nB hs
  refine nmP_eq (btw_nm nA nB hs) nC ?_ ?_
  · exact d1.trans ((Q.mix (Q.self (n := s.1) hs) a1 b1).trans ((step_q (red_ne ha.1) (red_ne hb.1) hs).symm.trans c1.symm))
  · exact d2.trans ((Q.mix (Q.self (n := s.1) hs) a2 b2).trans ((step_q (red_ne ha.2) (red_ne hb.2) hs).symm.trans c2.symm))
/-- from the other end -/
theorem K2 {A B : P3} {s : Fr} (hA : NmP A) (hB : NmP B) (hs : s.2 ≠ 0) : btw B A (lss (1, 1) s) = btw A B s := by
  obtain ⟨r, q⟩ := lss_ok (p := (1, 1)) (by decide) hs
  have n := red_ne r
  have key : ∀ u v U V : Int, v ≠ 0 → V ≠ 0 → Q (mixn (lss (1, 1) s).1 (lss (1, 1) s).2 U V u v) ((lss (1, 1) s).2 * V * v) (mixn s.1 s.2 u v U V) (s.2 * v * V) := by
    intro u v U V hv hV
    refine (Q.mix q (Q.self (n := U) hV) (Q.self (n := u) hv)).trans ⟨Int.mul_ne_zero (Int.mul_ne_zero q.en hV) hv, Int.mul_ne_zero (Int.mul_ne_zero hs hv) hV, ?_⟩
    unfold mixn
    simp only
    grind
  obtain ⟨d1, d2⟩ := btw_q hB hA n
  obtain ⟨e1, e2⟩ := btw_q hA hB hs
  exact nmP_eq (btw_nm hB hA n) (btw_nm hA hB hs) (d1.trans ((key _ _ _ _ (nmP_ne hA) (nmP_ne hB)).trans e1.symm)) (d2.trans ((key _ _ _ _ (nmP_ne hA) (nmP_ne hB)).trans e2.symm))
theorem K3 {A B : P3} (hA : NmP A) (hB : NmP B) : btw A B (0, 1) = A ∧ btw A B (1, 1) = B := by
  have z : ((0, 1) : Fr).2 ≠ 0 := by decide
  have o : ((1, 1) : Fr).2 ≠ 0 := by decide
  have nA := nmP_ne hA
  have nB := nmP_ne hB
  obtain ⟨d1, d2⟩ := btw_q hA hB z
  obtain ⟨e1, e2⟩ := btw_q hA hB o
  refine ⟨nmP_eq (btw_nm hA hB z) hA (d1.trans ⟨d1.en, nA, ?_⟩) (d2.trans ⟨d2.en, nA, ?_⟩), nmP_eq (btw_nm hA hB o) hB (e1.trans ⟨e1.en, nB, ?_⟩) (e2.trans ⟨e2.en, nB, ?_⟩)⟩ <;> unfold mixn <;> simp only <;> grind
theorem K4 {A B : P3} {s t : Fr} (hA : NmP A) (hB : NmP B) (hs : s.2 ≠ 0) (ht : t.2 ≠ 0) : btw A (btw A B s) t = btw A B (tms s t) := by
  obtain ⟨r, q⟩ := tms_ok hs ht
  have n := red_ne r
  have nD := btw_nm hA hB hs
  have nA := nmP_ne hA
  have nB := nmP_ne hB
  obtain ⟨c1, c2⟩ := btw_q hA hB hs
  obtain ⟨d1, d2⟩ := btw_q hA nD ht
  obtain ⟨e1, e2⟩ := btw_q hA hB n
  have key : ∀ u v U V X Z : Int, v ≠ 0 → V ≠ 0 → Q X Z (mixn s.1 s.2 u v U V) (s.2 * v * V) → Q (mixn t.1 t.2 u v X Z) (t.2 * v * Z) (mixn (tms s t).1 (tms s t).2 u v U V) ((tms s t).2 * v * V) := by
    intro u v U V X Z hv hV h
    have a1 := Q.mix (Q.self (n := t.1) ht) (Q.self (n := u) hv) h
    have a2 := Q.mix q (Q.self (n := u) hv) (Q.self (n := U) hV)
    refine a1.trans (Q.trans ⟨a1.en, a2.en, ?_⟩ a2.symm)
    unfold mixn
    grind
  exact nmP_eq (btw_nm hA nD ht) (btw_nm hA hB n) (d1.trans ((key _ _ _ _ _ _ nA nB c1).trans e1.symm)) (d2.trans ((key _ _ _ _ _ _ nA nB c2).trans e2.symm))
def lin (A B : P3) : P3 := (A.2.1 * B.2.2 - A.2.2 * B.2.1, A.2.2 * B.1 - A.1 * B.2.2, A.1 * B.2.1 - A.2.1 * B.1)
def det (A B C : P3) : Int := (lin A B).1 * C.1 + (lin A B).2.1 * C.2.1 + (lin A B).2.2 * C.2.2
theorem K5 {A B : P3} {s : Fr} (hA : NmP A) (hB : NmP B) (hs : s.2 ≠ 0) : det A B (btw A B s) = 0 := by
  obtain ⟨d1, d2⟩ := btw_q hA hB hs
  have h1 := d1.eq
  have h2 := d2.eq
  have n := btw_ne hA hB hs
  generalize btw A B s = C at *
  have e : det A B C * (s.2 * A.2.2 * B.2.2) = 0 := by
    unfold det lin
    simp only
    unfold mixn at h1 h2
    calc ((A.2.1 * B.2.2 - A.2.2 * B.2.1) * C.1 + (A.2.2 * B.1 - A.1 * B.2.2) * C.2.1 + (A.1 * B.2.1 - A.2.1 * B.1) * C.2.2) * (s.2 * A.2.2 * B.2.2)
        = (A.2.1 * B.2.2 - A.2.2 * B.2.1) * (C.1 * (s.2 * A.2.2 * B.2.2)) + (A.2.2 * B.1 - A.1 * B.2.2) * (C.2.1 * (s.2 * A.2.2 * B.2.2)) + (A.1 * B.2.1 - A.2.1 * B.1) * C.2.2 * (s.2 * A.2.2 * B.2.2) := by grind
      _ = (A.2.1 * B.2.2 - A.2.2 * B.2.1) * (((s.2 - s.1) * A.1 * B.2.2 + s.1 * B.1 * A.2.2) * C.2.2) + (A.2.2 * B.1 - A.1 * B.2.2) * (((s.2 - s.1) * A.2.1 * B.2.2 + s.1 * B.2.1 * A.2.2) * C.2.2) + (A.1 * B.2.1 - A.2.1 * B.1) * C.2.2 * (s.2 * A.2.2 * B.2.2) := by rw [h1, h2]
      _ = 0 := by grind
  exact (Int.mul_eq_zero.mp e).resolve_right n
theorem K6 {A B C : P3} : det C A B = det A B C := by
  unfold det lin
  grind
/-! ### bounds -/
def BdP (A : P3) (e : Nat) : Prop := A.1.natAbs < 2 ^ e ∧ A.2.1.natAbs < 2 ^ e ∧ A.2.2.natAbs < 2 ^ e
def BdF (p : Fr) (e : Nat) : Prop := p.1.natAbs < 2 ^ e ∧ p.2.natAbs < 2 ^ e
theorem BdP.mono {A : P3} {e f : Nat} (h : BdP A e) (g : e ≤ f) : BdP A f := ⟨le_bd h.1 g, le_bd h.2.1 g, le_bd h.2.2 g⟩
theorem BdF.mono {A : Fr} {e f : Nat} (h : BdF A e) (g : e ≤ f) : BdF A f := ⟨le_bd h.1 g, le_bd h.2 g⟩
theorem mix_bd {s e u v U V : Int} {f k : Nat} (hs : s.natAbs < 2 ^ f) (he : e.natAbs < 2 ^ f) (hu : u.natAbs < 2 ^ k) (hv : v.natAbs < 2 ^ k) (hU : U.natAbs < 2 ^ k) (hV : V.natAbs < 2 ^ k) : (mixn s e u v U V).natAbs < 2 ^ (f + 2 * k + 2) := by
  have a := mul_bd (mul_bd (sub_bd he hs) hu) hV
  have b := mul_bd (mul_bd hs hU) hv
  exact le_bd (add_bd a b) (by omega)
theorem btw_bd {A B : P3} {s : Fr} {f k : Nat} (hA : NmP A) (hB : NmP B) (hs : s.2 ≠ 0) (bs : BdF s f) (bA : BdP A k) (bB : BdP B k) : BdP (btw A B s) (f + 2 * k + 2) := by
  obtain ⟨_, _, _, h1, h2, h3⟩ := nrm_spec (x := mixn s.1 s.2 A.1 A.2.2 B.1 B.2.2) (y := mixn s.1 s.2 A.2.1 A.2.2 B.2.1 B.2.2) (btw_ne hA hB hs)
  exact ⟨Nat.lt_of_le_of_lt h1 (mix_bd bs.1 bs.2 bA.1 bA.2.2 bB.1 bB.2.2), Nat.lt_of_le_of_lt h2 (mix_bd bs.1 bs.2 bA.2.1 bA.2.2 bB.2.1 bB.2.2), Nat.lt_of_le_of_lt h3 (le_bd (mul_bd (mul_bd bs.2 bA.2.2) bB.2.2) (by omega))⟩
theorem frc_bd {t b : Int} {e : Nat} (hb : b ≠ 0) (h1 : t.natAbs < 2 ^ e) (h2 : b.natAbs < 2 ^ e) : BdF (frc t b) e := by
  obtain ⟨_, _, a, c⟩ := frc_spec (t := t) hb
  exact ⟨Nat.lt_of_le_of_lt a h1, Nat.lt_of_le_of_lt c h2⟩
theorem pls_bd {p q : Fr} {e : Nat} (hp : p.2 ≠ 0) (hq : q.2 ≠ 0) (bp : BdF p e) (bq : BdF q e) : BdF (pls p q) (2 * e + 1) :=
  frc_bd (Int.mul_ne_zero hp hq) (le_bd (add_bd (mul_bd bp.1 bq.2) (mul_bd bq.1 bp.2)) (by omega)) (le_bd (mul_bd bp.2 bq.2) (by omega))
theorem lss_bd {p q : Fr} {e : Nat} (hp : p.2 ≠ 0) (hq : q.2 ≠ 0) (bp : BdF p e) (bq : BdF q e) : BdF (lss p q) (2 * e + 1) :=
  frc_bd (Int.mul_ne_zero hp hq) (le_bd (sub_bd (mul_bd bp.1 bq.2) (mul_bd bq.1 bp.2)) (by omega)) (le_bd (mul_bd bp.2 bq.2) (by omega))
theorem tms_bd {p q : Fr} {e : Nat} (hp : p.2 ≠ 0) (hq : q.2 ≠ 0) (bp : BdF p e) (bq : BdF q e) : BdF (tms p q) (2 * e + 1) :=
  frc_bd (Int.mul_ne_zero hp hq) (le_bd (mul_bd bp.1 bq.1) (by omega)) (le_bd (mul_bd bp.2 bq.2) (by omega))
end Rf


set_option Elab.async false
set_option linter.all false
set_option maxRecDepth 100000
set_option maxHeartbeats 2000000
/-! Rf, part R: sides of lines, in plain numbers. -/
namespace Rf
def sgn (i : Int) : Int := if 0 < i then 1 else if i < 0 then -1 else 0
theorem sgn_neg (i : Int) : sgn (-i) = -sgn i := by
  unfold sgn
  by_cases h : 0 < i
  · rw [if_neg (by omega), if_pos (by omega), if_pos h]
  · by_cases g : i < 0
    · rw [if_pos (by omega), if_neg h, if_pos g]; rfl
    · rw [if_neg (by omega), if_neg (by omega), if_neg h, if_neg g]; rfl
theorem sgn_mul {i k : Int} (h : 0 < k) : sgn (i * k) = sgn i := by
  unfold sgn
  rcases Int.lt_trichotomy i 0 with z | z | z
  · have := Int.mul_neg_of_neg_of_pos z h
    rw [if_neg (by omega), if_pos this, if_neg (by omega), if_pos z]
  · subst z
    rw [Int.zero_mul]
  · rw [if_pos (Int.mul_pos z h), if_pos z]
theorem sgn_abs (i : Int) : (sgn i).natAbs ≤ 1 := by unfold sgn; split <;> (try split) <;> decide
def twc (p q : Fr × Fr) : Fr := lss (tms p.1 q.2) (tms p.2 q.1)
def pless (b a : Fr × Fr) : Fr × Fr := (lss b.1 a.1, lss b.2 a.2)
def psd (a b c : Fr × Fr) : Int := sgn (twc (pless b a) (pless c a)).1
theorem twc_ok {p q : Fr × Fr} (hp : RedP p) (hq : RedP q) : Red (twc p q) ∧ Q (twc p q).1 (twc p q).2 (p.1.1 * q.2.1 * (p.2.2 * q.1.2) - p.2.1 * q.1.1 * (p.1.2 * q.2.2)) (p.1.2 * q.2.2 * (p.2.2 * q.1.2)) := by
  obtain ⟨r1, q1⟩ := tms_ok (red_ne hp.1) (red_ne hq.2)
  obtain ⟨r2, q2⟩ := tms_ok (red_ne hp.2) (red_ne hq.1)
  obtain ⟨r3, q3⟩ := lss_ok (red_ne r1) (red_ne r2)
  exact ⟨r3, q3.trans (Q.sub q1 q2)⟩
theorem pless_ok {b a : Fr × Fr} (hb : RedP b) (ha : RedP a) : RedP (pless b a) ∧ Q (pless b a).1.1 (pless b a).1.2 (b.1.1 * a.1.2 - a.1.1 * b.1.2) (b.1.2 * a.1.2) ∧ Q (pless b a).2.1 (pless b a).2.2 (b.2.1 * a.2.2 - a.2.1 * b.2.2) (b.2.2 * a.2.2) := by
  obtain ⟨r1, q1⟩ := lss_ok (red_ne hb.1) (red_ne ha.1)
  obtain ⟨r2, q2⟩ := lss_ok (red_ne hb.2) (red_ne ha.2)
  exact ⟨⟨r1, r2⟩, q1, q2⟩
/-- two differences, crossed -/
theorem twc_q {a b c : Fr × Fr} (ha : RedP a) (hb : RedP b) (hc : RedP c) : Red (twc (pless b a) (pless c a)) ∧ Q (twc (pless b a) (pless c a)).1 (twc (pless b a) (pless c a)).2 (det (toldP a) (toldP b) (toldP c)) ((toldP a).2.2 * (toldP b).2.2 * (toldP c).2.2) := by
  obtain ⟨nA, a1, a2⟩ := toldP_ok ha
  obtain ⟨nB, b1, b2⟩ := toldP_ok hb
  obtain ⟨nC, c1, c2⟩ := toldP_ok hc
  obtain ⟨rf, f1, f2⟩ := pless_ok hb ha
  obtain ⟨rg, g1, g2⟩ := pless_ok hc ha
  obtain ⟨rt, t⟩ := twc_ok rf rg
  have F1 := f1.trans (Q.sub b1.symm a1.symm)
  have F2 := f2.trans (Q.sub b2.symm a2.symm)
  have G1 := g1.trans (Q.sub c1.symm a1.symm)
  have G2 := g2.trans (Q.sub c2.symm a2.symm)
  have big := t.trans (Q.sub (Q.mul F1 G2) (Q.mul F2 G1))
  have nA' := nmP_ne nA
  have nB' := nmP_ne nB
  have nC' := nmP_ne nC
  refine ⟨rt, big.trans ⟨big.en, Int.mul_ne_zero (Int.mul_ne_zero nA' nB') nC', ?_⟩⟩
  generalize toldP a = A
  generalize toldP b = B
  generalize toldP c = C
  unfold det lin
  simp only
  grind
theorem S1 {a b c : Fr × Fr} (ha : RedP a) (hb : RedP b) (hc : RedP c) : sgn (det (toldP a) (toldP b) (toldP c)) = psd a b c := by
  obtain ⟨rt, q⟩ := twc_q ha hb hc
  have e := q.eq
  have p1 := rt.pos
  have pA := (toldP_ok ha).1.pos
  have pB := (toldP_ok hb).1.pos
  have pC := (toldP_ok hc).1.pos
  have p2 : 0 < (toldP a).2.2 * (toldP b).2.2 * (toldP c).2.2 := Int.mul_pos (Int.mul_pos pA pB) pC
  unfold psd
  rw [← sgn_mul p1, ← e, sgn_mul p2]
theorem dets (A B C : P3) : det B C A = det A B C ∧ det C A B = det A B C ∧ det B A C = -det A B C ∧ det A C B = -det A B C ∧ det C B A = -det A B C := by
  unfold det lin
  simp only
  refine ⟨?_, ?_, ?_, ?_, ?_⟩ <;> grind
def farP (A B C : P3) : P3 := (A.1 + B.1 - C.1, A.2.1 + B.2.1 - C.2.1, 1)
theorem g3_one (x y : Int) : g3 x y 1 = 1 := by unfold g3; exact Int.gcd_one_right _
theorem far_nm (A B C : P3) : NmP (farP A B C) := ⟨by show (0 : Int) < 1; decide, g3_one _ _⟩
theorem far_det {A B C : P3} (hA : A.2.2 = 1) (hB : B.2.2 = 1) (hC : C.2.2 = 1) : det A B (farP A B C) = -det A B C := by
  unfold det lin farP
  simp only
  rw [hA, hB, hC]
  grind
theorem far_btw {A B C : P3} (nA : NmP A) (nB : NmP B) (nC : NmP C) (hA : A.2.2 = 1) (hB : B.2.2 = 1) (hC : C.2.2 = 1) : btw (farP A B C) C (1, 2) = btw A B (1, 2) := by
  have o : ((1, 2) : Fr).2 ≠ 0 := by decide
  have nF := far_nm A B C
  obtain ⟨d1, d2⟩ := btw_q nF nC o
  obtain ⟨e1, e2⟩ := btw_q nA nB o
  refine nmP_eq (btw_nm nF nC o) (btw_nm nA nB o) (d1.trans (Q.trans ⟨d1.en, e1.en, ?_⟩ e1.symm)) (d2.trans (Q.trans ⟨d2.en, e2.en, ?_⟩ e2.symm)) <;> unfold mixn farP <;> simp only <;> rw [hA, hB, hC] <;> grind
/-- beyond a point -/
def gone (a w : Fr × Fr) (s : Fr) : Fr × Fr := (pls a.1 (tms s w.1), pls a.2 (tms s w.2))
theorem gone_ok {a w : Fr × Fr} {s : Fr} (ha : RedP a) (hw : RedP w) (hs : s.2 ≠ 0) : RedP (gone a w s) :=
  ⟨(pls_ok (red_ne ha.1) (red_ne (tms_ok hs (red_ne hw.1)).1)).1, (pls_ok (red_ne ha.2) (red_ne (tms_ok hs (red_ne hw.2)).1)).1⟩
end Rf


set_option Elab.async false
set_option linter.all false
set_option maxRecDepth 100000
set_option maxHeartbeats 2000000
/-! Rf, part S: where two stretches meet, in plain numbers (not of one line). -/
namespace Rf
/-- a point told anew from a multiple of it -/
def nrmP (X : P3) : P3 := nrm X.1 X.2.1 X.2.2
def mulP (k : Int) (X : P3) : P3 := (k * X.1, k * X.2.1, k * X.2.2)
theorem nrmP_nm {X : P3} (h : X.2.2 ≠ 0) : NmP (nrmP X) := (nrm_spec h).1
theorem nrmP_q {X : P3} (h : X.2.2 ≠ 0) : Q (nrmP X).1 (nrmP X).2.2 X.1 X.2.2 ∧ Q (nrmP X).2.1 (nrmP X).2.2 X.2.1 X.2.2 := ⟨(nrm_spec h).2.1, (nrm_spec h).2.2.1⟩
/-- alike in both parts: one point -/
theorem nrmP_eq {X Y : P3} (q1 : Q X.1 X.2.2 Y.1 Y.2.2) (q2 : Q X.2.1 X.2.2 Y.2.1 Y.2.2) : nrmP X = nrmP Y := by
  obtain ⟨a1, a2⟩ := nrmP_q q1.dn
  obtain ⟨b1, b2⟩ := nrmP_q q1.en
  exact nmP_eq (nrmP_nm q1.dn) (nrmP_nm q1.en) (a1.trans (q1.trans b1.symm)) (a2.trans (q2.trans b2.symm))
theorem nrmP_mul {k : Int} {X : P3} (hk : k ≠ 0) (h : X.2.2 ≠ 0) : nrmP (mulP k X) = nrmP X :=
  nrmP_eq ⟨Int.mul_ne_zero hk h, h, by show k * X.1 * X.2.2 = X.1 * (k * X.2.2); grind⟩ ⟨Int.mul_ne_zero hk h, h, by show k * X.2.1 * X.2.2 = X.2.1 * (k * X.2.2); grind⟩
theorem nrmP_self {X : P3} (h : NmP X) : nrmP X = X := by
  have n := nmP_ne h
  obtain ⟨a1, a2⟩ := nrmP_q n
  exact nmP_eq (nrmP_nm n) h a1 a2
/-- the point of two lines -/
def meetX (A B C D : P3) : P3 := lin (lin A B) (lin C D)
def subP (k : Int) (X : P3) (l : Int) (Y : P3) : P3 := (k * X.1 - l * Y.1, k * X.2.1 - l * Y.2.1, k * X.2.2 - l * Y.2.2)
theorem p3_eq {X Y : P3} (h1 : X.1 = Y.1) (h2 : X.2.1 = Y.2.1) (h3 : X.2.2 = Y.2.2) : X = Y := by
  obtain ⟨a, b, c⟩ := X
  obtain ⟨x, y, z⟩ := Y
  have h1 : a = x := h1
  have h2 : b = y := h2
  have h3 : c = z := h3
  rw [h1, h2, h3]
theorem meetX_ab (A B C D : P3) : meetX A B C D = subP (det C D A) B (det C D B) A := by
  refine p3_eq ?_ ?_ ?_ <;> (unfold meetX subP det lin; simp only; grind)
theorem meetX_cd (A B C D : P3) : meetX A B C D = subP (det A B D) C (det A B C) D := by
  refine p3_eq ?_ ?_ ?_ <;> (unfold meetX subP det lin; simp only; grind)
theorem lin_swap (A B : P3) : lin B A = mulP (-1) (lin A B) := by
  refine p3_eq ?_ ?_ ?_ <;> (unfold lin mulP; simp only; grind)
theorem lin_mul (k l : Int) (A B : P3) : lin (mulP k A) (mulP l B) = mulP (k * l) (lin A B) := by
  refine p3_eq ?_ ?_ ?_ <;> (unfold lin mulP; simp only; grind)
theorem mulP_one (A : P3) : mulP 1 A = A := p3_eq (Int.one_mul _) (Int.one_mul _) (Int.one_mul _)
theorem meetX_ba (A B C D : P3) : meetX B A C D = mulP (-1) (meetX A B C D) := by
  unfold meetX
  rw [lin_swap A B]
  have e := lin_mul (-1) 1 (lin A B) (lin C D)
  rw [mulP_one] at e
  exact e
theorem meetX_dc (A B C D : P3) : meetX A B D C = mulP (-1) (meetX A B C D) := by
  unfold meetX
  rw [lin_swap C D]
  have e := lin_mul 1 (-1) (lin A B) (lin C D)
  rw [mulP_one] at e
  exact e
theorem meetX_sw (A B C D : P3) : meetX C D A B = mulP (-1) (meetX A B C D) := lin_swap _ _
theorem nrmP_neg {X : P3} (h : X.2.2 ≠ 0) : nrmP (mulP (-1) X) = nrmP X := nrmP_mul (by decide) h
/-- where the point is no far one -/
theorem meetX_ne {A B C D : P3} (nA : NmP A) (nB : NmP B) (h : ¬ 0 < det C D A * det C D B) (h0 : det C D A ≠ 0 ∨ det C D B ≠ 0) : (meetX A B C D).2.2 ≠ 0 := by
  rw [meetX_ab]
  show det C D A * B.2.2 - det C D B * A.2.2 ≠ 0
  have pA := nA.pos
  have pB := nB.pos
  generalize det C D A = s at *
  generalize det C D B = t at *
  intro e
  rcases Int.lt_trichotomy s 0 with hs | hs | hs
  · have ht : 0 ≤ t := by
      rcases Int.lt_or_le t 0 with z | z
      · exact absurd (Int.mul_pos_of_neg_of_neg hs z) h
      · exact z
    have a1 : s * B.2.2 < 0 := Int.mul_neg_of_neg_of_pos hs pB
    have a2 : 0 ≤ t * A.2.2 := Int.mul_nonneg ht (by omega)
    omega
  · subst hs
    have ht : t ≠ 0 := by rcases h0 with z | z; exact absurd rfl z; exact z
    have a1 : t * A.2.2 ≠ 0 := Int.mul_ne_zero ht (by omega)
    rw [Int.zero_mul] at e
    omega
  · have ht : t ≤ 0 := by
      rcases Int.lt_or_le 0 t with z | z
      · exact absurd (Int.mul_pos hs z) h
      · exact z
    have a1 : 0 < s * B.2.2 := Int.mul_pos hs pB
    have a2 : t * A.2.2 ≤ 0 := Int.mul_nonpos_of_nonpos_of_nonneg ht (by omega)
    omega
/-- an end that lies on the other's line is that point -/
theorem meetX_a {A B C D : P3} (nA : NmP A) (h1 : det C D A = 0) (h2 : det C D B ≠ 0) : nrmP (meetX A B C D) = A := by
  have e : meetX A B C D = mulP (-det C D B) A := by
    rw [meetX_ab, h1]
    refine p3_eq ?_ ?_ ?_ <;> (unfold subP mulP; simp only; grind)
  rw [e, nrmP_mul (by omega) (nmP_ne nA), nrmP_self nA]
theorem meetX_b {A B C D : P3} (nB : NmP B) (h1 : det C D A ≠ 0) (h2 : det C D B = 0) : nrmP (meetX A B C D) = B := by
  have e : meetX A B C D = mulP (det C D A) B := by
    rw [meetX_ab, h2]
    refine p3_eq ?_ ?_ ?_ <;> (unfold subP mulP; simp only; grind)
  rw [e, nrmP_mul h1 (nmP_ne nB), nrmP_self nB]
theorem meetX_c {A B C D : P3} (nC : NmP C) (h1 : det A B C = 0) (h2 : det A B D ≠ 0) : nrmP (meetX A B C D) = C := by
  have e : meetX A B C D = mulP (det A B D) C := by
    rw [meetX_cd, h1]
    refine p3_eq ?_ ?_ ?_ <;> (unfold subP mulP; simp only; grind)
  rw [e, nrmP_mul h2 (nmP_ne nC), nrmP_self nC]
theorem meetX_d {A B C D : P3} (nD : NmP D) (h1 : det A B C ≠ 0) (h2 : det A B D = 0) : nrmP (meetX A B C D) = D := by
  have e : meetX A B C D = mulP (-det A B C) D := by
    rw [meetX_cd, h2]
    refine p3_eq ?_ ?_ ?_ <;> (unfold subP mulP; simp only; grind)
  rw [e, nrmP_mul (by omega) (nmP_ne nD), nrmP_self nD]
/-- the share of the way from A to B at which that point lies -/
theorem meetX_btw {A B C D : P3} {s : Fr} (nA : NmP A) (nB : NmP B) (hs : s.2 ≠ 0) (q : Q s.1 s.2 (det C D A * B.2.2) (det C D A * B.2.2 - det C D B * A.2.2)) : btw A B s = nrmP (meetX A B C D) := by
  have hA := nmP_ne nA
  have hB := nmP_ne nB
  have nz : (meetX A B C D).2.2 ≠ 0 := by rw [meetX_ab]; exact q.en
  obtain ⟨d1, d2⟩ := btw_q nA nB hs
  obtain ⟨e1, e2⟩ := nrmP_q nz
  have m1 := Q.mix q (Q.self (n := A.1) hA) (Q.self (n := B.1) hB)
  have m2 := Q.mix q (Q.self (n := A.2.1) hA) (Q.self (n := B.2.1) hB)
  refine nmP_eq (btw_nm nA nB hs) (nrmP_nm nz) (d1.trans (m1.trans (Q.trans ⟨m1.en, nz, ?_⟩ e1.symm))) (d2.trans (m2.trans (Q.trans ⟨m2.en, nz, ?_⟩ e2.symm)))
  · rw [meetX_ab]; unfold subP; simp only; grind
  · rw [meetX_ab]; unfold subP; simp only; grind
end Rf


set_option Elab.async false
set_option linter.all false
set_option maxRecDepth 100000
set_option maxHeartbeats 2000000
/-! Rf, part T: the law's own meeting, of two lines, in plain numbers. -/
namespace Rf
def ovr (p q : Fr) : Fr := frc (p.1 * q.2) (p.2 * q.1)
theorem ovr_ok {p q : Fr} (hp : p.2 ≠ 0) (hq : q.1 ≠ 0) : Red (ovr p q) ∧ Q (ovr p q).1 (ovr p q).2 (p.1 * q.2) (p.2 * q.1) :=
  ⟨(frc_spec (Int.mul_ne_zero hp hq)).1, (frc_spec (Int.mul_ne_zero hp hq)).2.1⟩
theorem ovr_bd {p q : Fr} {e : Nat} (hp : p.2 ≠ 0) (hq : q.1 ≠ 0) (bp : BdF p e) (bq : BdF q e) : BdF (ovr p q) (2 * e + 1) :=
  frc_bd (Int.mul_ne_zero hp hq) (le_bd (mul_bd bp.1 bq.2) (by omega)) (le_bd (mul_bd bp.2 bq.1) (by omega))
/-- a quotient of values -/
theorem Q.over {n1 d1 m1 e1 n2 d2 m2 e2 : Int} (h : Q n1 d1 m1 e1) (g : Q n2 d2 m2 e2) (hn : n2 ≠ 0) (hm : m2 ≠ 0) : Q (n1 * d2) (d1 * n2) (m1 * e2) (e1 * m2) := by
  refine ⟨Int.mul_ne_zero h.dn hn, Int.mul_ne_zero h.en hm, ?_⟩
  have h1 := h.eq
  have h2 := g.eq
  calc n1 * d2 * (e1 * m2) = (n1 * e1) * (m2 * d2) := by grind
    _ = (m1 * d1) * (n2 * e2) := by rw [h1, h2]
    _ = m1 * e2 * (d1 * n2) := by grind
theorem Q.zero {n d m e : Int} (h : Q n d m e) : n = 0 ↔ m = 0 := by
  have e1 := h.eq
  constructor
  · intro z
    rw [z, Int.zero_mul] at e1
    exact (Int.mul_eq_zero.mp e1.symm).resolve_right h.dn
  · intro z
    rw [z, Int.zero_mul] at e1
    exact (Int.mul_eq_zero.mp e1).resolve_right h.en
/-- two differences of four points, crossed: no common line exactly if the lines' point is no far one -/
theorem par_q {a b c d : Fr × Fr} (ha : RedP a) (hb : RedP b) (hc : RedP c) (hd : RedP d) : Red (twc (pless b a) (pless d c)) ∧
    Q (twc (pless b a) (pless d c)).1 (twc (pless b a) (pless d c)).2 (meetX (toldP a) (toldP b) (toldP c) (toldP d)).2.2 ((toldP a).2.2 * (toldP b).2.2 * ((toldP c).2.2 * (toldP d).2.2)) := by
  obtain ⟨nA, a1, a2⟩ := toldP_ok ha
  obtain ⟨nB, b1, b2⟩ := toldP_ok hb
  obtain ⟨nC, c1, c2⟩ := toldP_ok hc
  obtain ⟨nD, d1, d2⟩ := toldP_ok hd
  obtain ⟨rf, f1, f2⟩ := pless_ok hb ha
  obtain ⟨rg, g1, g2⟩ := pless_ok hd hc
  obtain ⟨rt, t⟩ := twc_ok rf rg
  have F1 := f1.trans (Q.sub b1.symm a1.symm)
  have F2 := f2.trans (Q.sub b2.symm a2.symm)
  have G1 := g1.trans (Q.sub d1.symm c1.symm)
  have G2 := g2.trans (Q.sub d2.symm c2.symm)
  have big := t.trans (Q.sub (Q.mul F1 G2) (Q.mul F2 G1))
  have nA' := nmP_ne nA
  have nB' := nmP_ne nB
  have nC' := nmP_ne nC
  have nD' := nmP_ne nD
  refine ⟨rt, big.trans ⟨big.en, Int.mul_ne_zero (Int.mul_ne_zero nA' nB') (Int.mul_ne_zero nC' nD'), ?_⟩⟩
  generalize toldP a = A
  generalize toldP b = B
  generalize toldP c = C
  generalize toldP d = E
  unfold meetX lin
  simp only
  grind
/-- the gap against the second way -/
theorem gap2_q {a c d : Fr × Fr} (ha : RedP a) (hc : RedP c) (hd : RedP d) : Red (twc (pless c a) (pless d c)) ∧
    Q (twc (pless c a) (pless d c)).1 (twc (pless c a) (pless d c)).2 (det (toldP c) (toldP d) (toldP a)) ((toldP c).2.2 * (toldP d).2.2 * (toldP a).2.2) := by
  obtain ⟨nA, a1, a2⟩ := toldP_ok ha
  obtain ⟨nC, c1, c2⟩ := toldP_ok hc
  obtain ⟨nD, d1, d2⟩ := toldP_ok hd
  obtain ⟨rf, f1, f2⟩ := pless_ok hc ha
  obtain ⟨rg, g1, g2⟩ := pless_ok hd hc
  obtain ⟨rt, t⟩ := twc_ok rf rg
  have F1 := f1.trans (Q.sub c1.symm a1.symm)
  have F2 := f2.trans (Q.sub c2.symm a2.symm)
  have G1 := g1.trans (Q.sub d1.symm c1.symm)
  have G2 := g2.trans (Q.sub d2.symm c2.symm)
  have big := t.trans (Q.sub (Q.mul F1 G2) (Q.mul F2 G1))
  have nA' := nmP_ne nA
  have nC' := nmP_ne nC
  have nD' := nmP_ne nD
  refine ⟨rt, big.trans ⟨big.en, Int.mul_ne_zero (Int.mul_ne_zero nC' nD') nA', ?_⟩⟩
  generalize toldP a = A
  generalize toldP c = C
  generalize toldP d = E
  unfold det lin
  simp only
  grind
/-- the gap against the first way -/
theorem gap1_q {a b c : Fr × Fr} (ha : RedP a) (hb : RedP b) (hc : RedP c) : Red (twc (pless c a) (pless b a)) ∧
    Q (twc (pless c a) (pless b a)).1 (twc (pless c a) (pless b a)).2 (-det (toldP a) (toldP b) (toldP c)) ((toldP a).2.2 * (toldP b).2.2 * (toldP c).2.2) := by
  obtain ⟨r, q⟩ := twc_q ha hc hb
  refine ⟨r, q.trans ⟨q.en, Int.mul_ne_zero (Int.mul_ne_zero (nmP_ne (toldP_ok ha).1) (nmP_ne (toldP_ok hb).1)) (nmP_ne (toldP_ok hc).1), ?_⟩⟩
  have e : det (toldP a) (toldP c) (toldP b) = -det (toldP a) (toldP b) (toldP c) := (dets _ _ _).2.2.2.1
  rw [e]
  grind
/-- a share by two sides -/
theorem share_in {h : Fr} {u v : Int} (hp : 0 < h.2) (q : Q h.1 h.2 u (u - v)) : ((0 ≤ h.1 ∧ h.1 ≤ h.2) ↔ ¬ 0 < u * v) ∧ ((0 < h.1 ∧ h.1 < h.2) ↔ u * v < 0) := by
  obtain ⟨x, y⟩ := h
  have hp : 0 < y := hp
  have e : x * (u - v) = u * y := q.eq
  have w : u - v ≠ 0 := q.en
  have e2 : (y - x) * (u - v) = -v * y := by grind
  show ((0 ≤ x ∧ x ≤ y) ↔ ¬ 0 < u * v) ∧ ((0 < x ∧ x < y) ↔ u * v < 0)
  have sg1 : ∀ {p r s : Int}, 0 < r → 0 < s → ∀ t, t * s = p * r → ((0 < t ↔ 0 < p) ∧ (t < 0 ↔ p < 0)) := by
    intro p r s hr hs t et
    refine ⟨⟨fun h => ?_, fun h => ?_⟩, ⟨fun h => ?_, fun h => ?_⟩⟩
    · rcases Int.lt_trichotomy p 0 with z | z | z
      · have := Int.mul_pos h hs; have := Int.mul_neg_of_neg_of_pos z hr; omega
      · subst z; have := Int.mul_pos h hs; rw [Int.zero_mul] at et; omega
      · exact z
    · rcases Int.lt_trichotomy t 0 with z | z | z
      · have := Int.mul_pos h hr; have := Int.mul_neg_of_neg_of_pos z hs; omega
      · subst z; have := Int.mul_pos h hr; rw [Int.zero_mul] at et; omega
      · exact z
    · rcases Int.lt_trichotomy p 0 with z | z | z
      · exact z
      · subst z; have := Int.mul_neg_of_neg_of_pos h hs; rw [Int.zero_mul] at et; omega
      · have := Int.mul_neg_of_neg_of_pos h hs; have := Int.mul_pos z hr; omega
    · rcases Int.lt_trichotomy t 0 with z | z | z
      · exact z
      · subst z; have := Int.mul_neg_of_neg_of_pos h hr; rw [Int.zero_mul] at et; omega
      · have := Int.mul_neg_of_neg_of_pos h hr; have := Int.mul_pos z hs; omega
  rcases Int.lt_trichotomy (u - v) 0 with z | z | z
  · -- the other way about
    obtain ⟨p1, p2⟩ := sg1 (p := -u) (r := y) (s := -(u - v)) hp (by omega) x (by grind)
    obtain ⟨r1, r2⟩ := sg1 (p := v) (r := y) (s := -(u - v)) hp (by omega) (y - x) (by grind)
    constructor
    · constructor
      · rintro ⟨h1, h2⟩ h3
        have hu : u ≤ 0 := by rcases Int.lt_or_le 0 u with k | k; exact absurd (p2.mpr (by omega)) (by omega); exact k
        have hv : 0 ≤ v := by rcases Int.lt_or_le v 0 with k | k; exact absurd (r2.mpr k) (by omega); exact k
        have := Int.mul_nonpos_of_nonpos_of_nonneg hu hv
        omega
      · intro h3
        refine ⟨?_, ?_⟩
        · rcases Int.lt_or_le x 0 with k | k
          · have := p2.mp k
            exact absurd (Int.mul_pos (show 0 < u by omega) (show 0 < v by omega)) h3
          · exact k
        · rcases Int.lt_or_le y x with k | k
          · have := r2.mp (by omega)
            exact absurd (Int.mul_pos_of_neg_of_neg (show u < 0 by omega) this) h3
          · exact k
    · constructor
      · rintro ⟨h1, h2⟩
        have k1 := p1.mp h1
        have k2 := r1.mp (by omega)
        exact Int.mul_neg_of_neg_of_pos (by omega) k2
      · intro h3
        have hu : u < 0 := by
          rcases Int.lt_trichotomy u 0 with k | k | k
          · exact k
          · subst k; rw [Int.zero_mul] at h3; omega
          · have := Int.mul_pos k (show 0 < v by omega); omega
        have hv : 0 < v := by
          rcases Int.lt_trichotomy v 0 with k | k | k
          · have := Int.mul_pos_of_neg_of_neg hu k; omega
          · subst k; rw [Int.mul_zero] at h3; omega
          · exact k
        exact ⟨p1.mpr (by omega), by have := r1.mpr hv; omega⟩
  · exact absurd z w
  · obtain ⟨p1, p2⟩ := sg1 (p := u) (r := y) (s := u - v) hp z x e
    obtain ⟨r1, r2⟩ := sg1 (p := -v) (r := y) (s := u - v) hp z (y - x) e2
    constructor
    · constructor
      · rintro ⟨h1, h2⟩ h3
        have hu : 0 ≤ u := by rcases Int.lt_or_le u 0 with k | k; exact absurd (p2.mpr k) (by omega); exact k
        have hv : v ≤ 0 := by rcases Int.lt_or_le 0 v with k | k; exact absurd (r2.mpr (by omega)) (by omega); exact k
        have := Int.mul_nonpos_of_nonneg_of_nonpos hu hv
        omega
      · intro h3
        refine ⟨?_, ?_⟩
        · rcases Int.lt_or_le x 0 with k | k
          · have := p2.mp k
            exact absurd (Int.mul_pos_of_neg_of_neg this (show v < 0 by omega)) h3
          · exact k
        · rcases Int.lt_or_le y x with k | k
          · have := r2.mp (by omega)
            exact absurd (Int.mul_pos (show 0 < u by omega) (show 0 < v by omega)) h3
          · exact k
    · constructor
      · rintro ⟨h1, h2⟩
        have k1 := p1.mp h1
        have k2 := r1.mp (by omega)
        exact Int.mul_neg_of_pos_of_neg k1 (by omega)
      · intro h3
        have hu : 0 < u := by
          rcases Int.lt_trichotomy u 0 with k | k | k
          · have := Int.mul_pos_of_neg_of_neg k (show v < 0 by omega); omega
          · subst k; rw [Int.zero_mul] at h3; omega
          · exact k
        have hv : v < 0 := by
          rcases Int.lt_trichotomy v 0 with k | k | k
          · exact k
          · subst k; rw [Int.mul_zero] at h3; omega
          · have := Int.mul_pos hu k; omega
        exact ⟨p1.mpr hu, by have := r1.mpr (by omega); omega⟩
end Rf


set_option Elab.async false
set_option linter.all false
set_option maxRecDepth 100000
set_option maxHeartbeats 2000000
/-! Rf, part U: points on two ways out of one point. -/
namespace Rf
/-- the point p + s f, told by whole numbers, not in least terms -/
def gonP (P : P3) (f : Fr × Fr) (s : Fr) : P3 :=
  (P.1 * (s.2 * (f.1.2 * f.2.2)) + s.1 * (f.1.1 * f.2.2) * P.2.2, P.2.1 * (s.2 * (f.1.2 * f.2.2)) + s.1 * (f.2.1 * f.1.2) * P.2.2, P.2.2 * (s.2 * (f.1.2 * f.2.2)))
theorem gonP_pos {P : P3} {f : Fr × Fr} {s : Fr} (nP : NmP P) (hf : RedP f) (hs : 0 < s.2) : 0 < (gonP P f s).2.2 := Int.mul_pos nP.pos (Int.mul_pos hs (Int.mul_pos hf.1.pos hf.2.pos))
theorem gone_told {p f : Fr × Fr} {s : Fr} (hp : RedP p) (hf : RedP f) (hs : 0 < s.2) : toldP (gone p f s) = nrmP (gonP (toldP p) f s) := by
  have hs0 : s.2 ≠ 0 := by omega
  obtain ⟨nP, p1, p2⟩ := toldP_ok hp
  have rg := gone_ok hp hf hs0
  obtain ⟨nG, g1, g2⟩ := toldP_ok rg
  have pz := gonP_pos (s := s) nP hf hs
  obtain ⟨z1, z2⟩ := nrmP_q (X := gonP (toldP p) f s) (by omega)
  obtain ⟨t1, u1⟩ := tms_ok (p := s) (q := f.1) hs0 (red_ne hf.1)
  obtain ⟨t2, u2⟩ := tms_ok (p := s) (q := f.2) hs0 (red_ne hf.2)
  obtain ⟨_, v1⟩ := pls_ok (p := p.1) (q := tms s f.1) (red_ne hp.1) (red_ne t1)
  obtain ⟨_, v2⟩ := pls_ok (p := p.2) (q := tms s f.2) (red_ne hp.2) (red_ne t2)
  have w1 := v1.trans (Q.add p1.symm u1)
  have w2 := v2.trans (Q.add p2.symm u2)
  have nz : (gonP (toldP p) f s).2.2 ≠ 0 := by omega
  refine nmP_eq nG (nrmP_nm nz) (g1.trans (w1.trans (Q.trans ⟨w1.en, nz, ?_⟩ z1.symm))) (g2.trans (w2.trans (Q.trans ⟨w2.en, nz, ?_⟩ z2.symm)))
  · unfold gonP; simp only; grind
  · unfold gonP; simp only; grind
/-- the crossed ways -/
def cw (f g : Fr × Fr) : Int := (f.1.1 * f.2.2) * (g.2.1 * g.1.2) - (f.2.1 * f.1.2) * (g.1.1 * g.2.2)
theorem gonP_det (P : P3) (f g : Fr × Fr) (a b c : Fr) : det (gonP P g a) (gonP P g b) (gonP P f c) = -(P.2.2 * P.2.2 * P.2.2 * (g.1.2 * g.2.2) * ((b.1 * a.2 - a.1 * b.2) * c.1 * cw f g)) := by
  unfold det lin gonP cw
  simp only
  grind
theorem cw_sw (f g : Fr × Fr) : cw g f = -cw f g := by unfold cw; grind
theorem gonP_meet (P : P3) (f g : Fr × Fr) (a b c d : Fr) : meetX (gonP P f a) (gonP P f b) (gonP P g c) (gonP P g d) =
    mulP (P.2.2 * P.2.2 * P.2.2 * ((g.1.2 * g.2.2) * (f.1.2 * f.2.2)) * ((d.1 * c.2 - c.1 * d.2) * (b.1 * a.2 - a.1 * b.2) * cw f g)) P := by
  rw [meetX_ab, gonP_det, gonP_det]
  refine p3_eq ?_ ?_ ?_
  · unfold subP mulP gonP; simp only; grind
  · unfold subP mulP gonP; simp only; grind
  · unfold subP mulP gonP; simp only; grind
theorem nrmP_scale {X : P3} (h : 0 < X.2.2) : ∃ k : Int, 0 < k ∧ X = mulP k (nrmP X) := by
  have hg0 : 0 < g3 X.1 X.2.1 X.2.2 := Int.gcd_pos_of_ne_zero_right _ (by omega)
  obtain ⟨⟨u, hu⟩, ⟨v, hv⟩, ⟨w, hw⟩⟩ := g3_dvd X.1 X.2.1 X.2.2
  have hs : sg X.2.2 (g3 X.1 X.2.1 X.2.2) = (g3 X.1 X.2.1 X.2.2 : Int) := if_pos h
  have hk : (g3 X.1 X.2.1 X.2.2 : Int) ≠ 0 := by omega
  refine ⟨(g3 X.1 X.2.1 X.2.2 : Int), by omega, p3_eq ?_ ?_ ?_⟩
  · show X.1 = (g3 X.1 X.2.1 X.2.2 : Int) * X.1.fdiv (sg X.2.2 (g3 X.1 X.2.1 X.2.2))
    rw [hs]
    generalize (g3 X.1 X.2.1 X.2.2 : Int) = k at *
    rw [hu, Int.mul_fdiv_cancel_left _ hk]
  · show X.2.1 = (g3 X.1 X.2.1 X.2.2 : Int) * X.2.1.fdiv (sg X.2.2 (g3 X.1 X.2.1 X.2.2))
    rw [hs]
    generalize (g3 X.1 X.2.1 X.2.2 : Int) = k at *
    rw [hv, Int.mul_fdiv_cancel_left _ hk]
  · show X.2.2 = (g3 X.1 X.2.1 X.2.2 : Int) * X.2.2.fdiv (sg X.2.2 (g3 X.1 X.2.1 X.2.2))
    rw [hs]
    generalize (g3 X.1 X.2.1 X.2.2 : Int) = k at *
    rw [hw, Int.mul_fdiv_cancel_left _ hk]
theorem det_mul (k l m : Int) (A B C : P3) : det (mulP k A) (mulP l B) (mulP m C) = k * l * m * det A B C := by
  unfold det lin mulP
  simp only
  grind
theorem meetX_mul (k l m n : Int) (A B C E : P3) : meetX (mulP k A) (mulP l B) (mulP m C) (mulP n E) = mulP (k * l * (m * n)) (meetX A B C E) := by
  unfold meetX
  rw [lin_mul, lin_mul, lin_mul]
/-- the sides of points told in least terms: those of the points as they are -/
theorem det_nrm {X Y Z : P3} (hX : 0 < X.2.2) (hY : 0 < Y.2.2) (hZ : 0 < Z.2.2) : ∃ k : Int, 0 < k ∧ det X Y Z = k * det (nrmP X) (nrmP Y) (nrmP Z) := by
  obtain ⟨k, hk, e1⟩ := nrmP_scale hX
  obtain ⟨l, hl, e2⟩ := nrmP_scale hY
  obtain ⟨m, hm, e3⟩ := nrmP_scale hZ
  refine ⟨k * l * m, Int.mul_pos (Int.mul_pos hk hl) hm, ?_⟩
  have e := det_mul k l m (nrmP X) (nrmP Y) (nrmP Z)
  rw [← e1, ← e2, ← e3] at e
  exact e
theorem meet_nrm {A B C E : P3} (hA : 0 < A.2.2) (hB : 0 < B.2.2) (hC : 0 < C.2.2) (hE : 0 < E.2.2) (h : (meetX A B C E).2.2 ≠ 0) : nrmP (meetX (nrmP A) (nrmP B) (nrmP C) (nrmP E)) = nrmP (meetX A B C E) := by
  obtain ⟨k, hk, e1⟩ := nrmP_scale hA
  obtain ⟨l, hl, e2⟩ := nrmP_scale hB
  obtain ⟨m, hm, e3⟩ := nrmP_scale hC
  obtain ⟨n, hn, e4⟩ := nrmP_scale hE
  have e := meetX_mul k l m n (nrmP A) (nrmP B) (nrmP C) (nrmP E)
  rw [← e1, ← e2, ← e3, ← e4] at e
  rw [e] at h ⊢
  have h2 : (meetX (nrmP A) (nrmP B) (nrmP C) (nrmP E)).2.2 ≠ 0 := by
    intro z
    apply h
    show _ * (meetX (nrmP A) (nrmP B) (nrmP C) (nrmP E)).2.2 = 0
    rw [z, Int.mul_zero]
  rw [nrmP_mul (Int.mul_ne_zero (Int.mul_ne_zero (by omega) (by omega)) (Int.mul_ne_zero (by omega) (by omega))) h2]
end Rf


set_option Elab.async false
set_option linter.all false
set_option maxRecDepth 100000
set_option maxHeartbeats 4000000
/-! Rg, part V: stretches that meet, in plain numbers. -/
namespace Rf
open PySem PySem.Spec PyProof.Rows L2
abbrev pD (P : P3) : D := .tup [.int P.1, .int P.2.1, .int P.2.2]
abbrev fD (p : Fr) : D := .tup [.int p.1, .int p.2]
abbrev pqD (a : Fr × Fr) : D := .tup [fD a.1, fD a.2]
def tNone : D := .tup [.str "none"]
def tAlong : D := .tup [.str "along"]
def tTouch (P : P3) : D := .tup [.str "touch", pD P]
def tCross (P : P3) : D := .tup [.str "cross", pD P]
def ahead (P R : P3) : Bool := if P.1 * R.2.2 ≠ R.1 * P.2.2 then decide (P.1 * R.2.2 < R.1 * P.2.2) else decide (P.2.1 * R.2.2 < R.2.1 * P.2.2)
def lowP (P R : P3) : P3 := if ahead R P then R else P
def highP (P R : P3) : P3 := if ahead R P then P else R
def maxP (P R : P3) : P3 := if ahead P R then R else P
def minP (P R : P3) : P3 := if ahead R P then R else P
def ovP (A B C E : P3) : D :=
  if maxP (lowP A B) (lowP C E) = minP (highP A B) (highP C E) then tTouch (maxP (lowP A B) (lowP C E))
  else if ahead (maxP (lowP A B) (lowP C E)) (minP (highP A B) (highP C E)) then tAlong else tNone
theorem pick {Z : P3 → Prop} {b : Bool} {P R : P3} (h : Z P) (g : Z R) : Z (if b then P else R) := by cases b <;> assumption
theorem sgn0 {i : Int} : sgn i = 0 ↔ i = 0 := by
  unfold sgn
  constructor
  · intro h
    split at h
    · cases h
    · split at h
      · cases h
      · omega
  · intro h
    subst h
    rfl
theorem sgn_pos {i j : Int} : 0 < sgn i * sgn j ↔ 0 < i * j := by
  rcases Int.lt_trichotomy i 0 with h | h | h <;> rcases Int.lt_trichotomy j 0 with g | g | g
  · have := Int.mul_pos_of_neg_of_neg h g
    unfold sgn; rw [if_neg (by omega), if_pos h, if_neg (by omega), if_pos g]; constructor <;> intro _ <;> first | assumption | decide
  · subst g; rw [Int.mul_zero, show sgn 0 = 0 from rfl, Int.mul_zero]
  · have := Int.mul_neg_of_neg_of_pos h g
    unfold sgn; rw [if_neg (by omega), if_pos h, if_pos g]; constructor <;> intro z <;> first | omega | exact absurd z (by decide)
  · subst h; rw [Int.zero_mul, show sgn 0 = 0 from rfl, Int.zero_mul]
  · subst h; rw [Int.zero_mul, show sgn 0 = 0 from rfl, Int.zero_mul]
  · subst h; rw [Int.zero_mul, show sgn 0 = 0 from rfl, Int.zero_mul]
  · have := Int.mul_neg_of_pos_of_neg h g
    unfold sgn; rw [if_pos h, if_neg (by omega), if_pos g]; constructor <;> intro z <;> first | omega | exact absurd z (by decide)
  · subst g; rw [Int.mul_zero, show sgn 0 = 0 from rfl, Int.mul_zero]
  · have := Int.mul_pos h g
    unfold sgn; rw [if_pos h, if_pos g]; constructor <;> intro _ <;> first | assumption | decide
def crossP (A B C E : P3) : D :=
  if det C E A = 0 ∧ det C E B = 0 then ovP A B C E
  else if 0 < det C E A * det C E B ∨ 0 < det A B C * det A B E then tNone
  else if det C E A = 0 then tTouch A else if det C E B = 0 then tTouch B else if det A B C = 0 then tTouch C else if det A B E = 0 then tTouch E
  else tCross (nrmP (meetX A B C E))
theorem find4 {A B C E : P3} {a b c e : Int} : ([(A, a), (B, b), (C, c), (E, e)] : List (P3 × Int)).find? (fun p => decide (p.2 = 0)) =
    if a = 0 then some (A, a) else if b = 0 then some (B, b) else if c = 0 then some (C, c) else if e = 0 then some (E, e) else none := by
  by_cases h1 : a = 0
  · rw [if_pos h1, List.find?_cons_of_pos (by simpa using h1)]
  · rw [if_neg h1, List.find?_cons_of_neg (by simpa using h1)]
    by_cases h2 : b = 0
    · rw [if_pos h2, List.find?_cons_of_pos (by simpa using h2)]
    · rw [if_neg h2, List.find?_cons_of_neg (by simpa using h2)]
      by_cases h3 : c = 0
      · rw [if_pos h3, List.find?_cons_of_pos (by simpa using h3)]
      · rw [if_neg h3, List.find?_cons_of_neg (by simpa using h3)]
        by_cases h4 : e = 0
        · rw [if_pos h4, List.find?_cons_of_pos (by simpa using h4)]
        · rw [if_neg h4, List.find?_cons_of_neg (by simpa using h4)]
          rfl
theorem ahead_not {P R : P3} (h : ahead P R = true) : ahead R P = false := by
  unfold ahead at h ⊢
  by_cases e : P.1 * R.2.2 = R.1 * P.2.2
  · rw [if_neg (by simpa using e)] at h
    rw [if_neg (by simpa using e.symm)]
    exact decide_eq_false (by have := of_decide_eq_true h; omega)
  · rw [if_pos e] at h
    rw [if_pos (fun z => e z.symm)]
    exact decide_eq_false (by have := of_decide_eq_true h; omega)
theorem ahead_eq {P R : P3} (nP : NmP P) (nR : NmP R) (h : ahead P R = false) (g : ahead R P = false) : P = R := by
  unfold ahead at h g
  by_cases e : P.1 * R.2.2 = R.1 * P.2.2
  · rw [if_neg (by simpa using e)] at h
    rw [if_neg (by simpa using e.symm)] at g
    have h1 := of_decide_eq_false h
    have g1 := of_decide_eq_false g
    exact nmP_eq nP nR ⟨nmP_ne nP, nmP_ne nR, e⟩ ⟨nmP_ne nP, nmP_ne nR, by omega⟩
  · rw [if_pos e] at h
    rw [if_pos (fun z => e z.symm)] at g
    have h1 := of_decide_eq_false h
    have g1 := of_decide_eq_false g
    omega
theorem two_ways {P R : P3} (nP : NmP P) (nR : NmP R) : (ahead P R = true ∧ ahead R P = false) ∨ (ahead P R = false ∧ ahead R P = true) ∨ (ahead P R = false ∧ ahead R P = false ∧ P = R) := by
  cases h : ahead P R with
  | true => exact .inl ⟨rfl, ahead_not h⟩
  | false =>
    cases g : ahead R P with
    | true => exact .inr (.inl ⟨rfl, rfl⟩)
    | false => exact .inr (.inr ⟨rfl, rfl, ahead_eq nP nR h g⟩)
theorem low_sw {P R : P3} (nP : NmP P) (nR : NmP R) : lowP P R = lowP R P ∧ highP P R = highP R P ∧ maxP P R = maxP R P ∧ minP P R = minP R P := by
  unfold lowP highP maxP minP
  rcases two_ways nP nR with ⟨h, g⟩ | ⟨h, g⟩ | ⟨h, g, e⟩ <;> rw [h, g] <;> simp
  rw [e]; simp
theorem ov_ba {A B C E : P3} (nA : NmP A) (nB : NmP B) : ovP B A C E = ovP A B C E := by
  obtain ⟨h1, h2, _, _⟩ := low_sw nA nB
  unfold ovP
  rw [h1, h2]
theorem ov_ec {A B C E : P3} (nC : NmP C) (nE : NmP E) : ovP A B E C = ovP A B C E := by
  obtain ⟨h1, h2, _, _⟩ := low_sw nC nE
  unfold ovP
  rw [h1, h2]
theorem ov_sw {A B C E : P3} (nA : NmP A) (nB : NmP B) (nC : NmP C) (nE : NmP E) : ovP C E A B = ovP A B C E := by
  have z1 : NmP (lowP A B) := pick nB nA
  have z2 : NmP (highP A B) := pick nA nB
  have z3 : NmP (lowP C E) := pick nE nC
  have z4 : NmP (highP C E) := pick nC nE
  unfold ovP
  rw [(low_sw z3 z1).2.2.1, (low_sw z4 z2).2.2.2]
/-- not of one line: the meeting told by its one point -/
def crP (A B C E : P3) : D :=
  if 0 < det C E A * det C E B ∨ 0 < det A B C * det A B E then tNone
  else if det C E A = 0 ∨ det C E B = 0 ∨ det A B C = 0 ∨ det A B E = 0 then tTouch (nrmP (meetX A B C E)) else tCross (nrmP (meetX A B C E))
theorem cross_cr {A B C E : P3} (nA : NmP A) (nB : NmP B) (nC : NmP C) (nE : NmP E) (h : ¬ (det C E A = 0 ∧ det C E B = 0)) : crossP A B C E = crP A B C E := by
  unfold crossP crP
  rw [if_neg h]
  by_cases h1 : 0 < det C E A * det C E B ∨ 0 < det A B C * det A B E
  · rw [if_pos h1, if_pos h1]
  rw [if_neg h1, if_neg h1]
  have nz : (meetX A B C E).2.2 ≠ 0 := meetX_ne nA nB (fun z => h1 (.inl z)) (by
    by_cases z : det C E A = 0
    · exact .inr fun w => h ⟨z, w⟩
    · exact .inl z)
  by_cases z1 : det C E A = 0
  · rw [if_pos z1, if_pos (.inl z1), meetX_a nA z1 fun w => h ⟨z1, w⟩]
  rw [if_neg z1]
  by_cases z2 : det C E B = 0
  · rw [if_pos z2, if_pos (.inr (.inl z2)), meetX_b nB z1 z2]
  rw [if_neg z2]
  by_cases z3 : det A B C = 0
  · rw [if_pos z3, if_pos (.inr (.inr (.inl z3))), meetX_c nC z3 fun w => nz (by rw [meetX_cd, z3, w]; show 0 * C.2.2 - 0 * E.2.2 = 0; rw [Int.zero_mul, Int.zero_mul]; rfl)]
  rw [if_neg z3]
  by_cases z4 : det A B E = 0
  · rw [if_pos z4, if_pos (.inr (.inr (.inr z4))), meetX_d nE z3 z4]
  rw [if_neg z4, if_neg (fun z => z.elim z1 fun z => z.elim z2 fun z => z.elim z3 z4)]
theorem col_sw {A B C E : P3} (nC : NmP C) (nE : NmP E) (hce : C ≠ E) (h : det C E A = 0 ∧ det C E B = 0) : det A B C = 0 ∧ det A B E = 0 := by
  have e1 := meetX_ab A B C E
  rw [h.1, h.2] at e1
  have e2 := e1.symm.trans (meetX_cd A B C E)
  have pC := nmP_ne nC
  have pE := nmP_ne nE
  have f1 : 0 * B.1 - 0 * A.1 = det A B E * C.1 - det A B C * E.1 := congrArg (·.1) e2
  have f2 : 0 * B.2.1 - 0 * A.2.1 = det A B E * C.2.1 - det A B C * E.2.1 := congrArg (·.2.1) e2
  have f3 : 0 * B.2.2 - 0 * A.2.2 = det A B E * C.2.2 - det A B C * E.2.2 := congrArg (·.2.2) e2
  generalize det A B C = s at *
  generalize det A B E = t at *
  have g1 : t * C.1 = s * E.1 := by omega
  have g2 : t * C.2.1 = s * E.2.1 := by omega
  have g3 : t * C.2.2 = s * E.2.2 := by omega
  by_cases ht : t = 0
  · subst ht
    have : s * E.2.2 = 0 := by omega
    exact ⟨(Int.mul_eq_zero.mp this).resolve_right pE, rfl⟩
  · exfalso
    have hs : s ≠ 0 := by
      intro z
      subst z
      rw [Int.zero_mul] at g3
      exact (Int.mul_ne_zero ht pC) g3
    have hst : s * t ≠ 0 := Int.mul_ne_zero hs ht
    refine hce (nmP_eq nC nE ⟨pC, pE, ?_⟩ ⟨pC, pE, ?_⟩)
    · refine Int.eq_of_mul_eq_mul_left hst ?_
      calc s * t * (C.1 * E.2.2) = (t * C.1) * (s * E.2.2) := by grind
        _ = (s * E.1) * (t * C.2.2) := by rw [g1, g3]
        _ = s * t * (E.1 * C.2.2) := by grind
    · refine Int.eq_of_mul_eq_mul_left hst ?_
      calc s * t * (C.2.1 * E.2.2) = (t * C.2.1) * (s * E.2.2) := by grind
        _ = (s * E.2.1) * (t * C.2.2) := by rw [g2, g3]
        _ = s * t * (E.2.1 * C.2.2) := by grind
theorem cr_ba {A B C E : P3} (nA : NmP A) (nB : NmP B) (h : ¬ (det C E A = 0 ∧ det C E B = 0)) : crP B A C E = crP A B C E := by
  unfold crP
  have e3 : det B A C = -det A B C := (dets A B C).2.2.1
  have e4 : det B A E = -det A B E := (dets A B E).2.2.1
  rw [e3, e4, Int.neg_mul_neg, Int.mul_comm (det C E B)]
  by_cases h1 : 0 < det C E A * det C E B ∨ 0 < det A B C * det A B E
  · rw [if_pos h1, if_pos h1]
  rw [if_neg h1, if_neg h1]
  have nz : (meetX A B C E).2.2 ≠ 0 := meetX_ne nA nB (fun z => h1 (.inl z)) (by
    by_cases z : det C E A = 0
    · exact .inr fun w => h ⟨z, w⟩
    · exact .inl z)
  rw [meetX_ba, nrmP_neg nz]
  have e : (det C E B = 0 ∨ det C E A = 0 ∨ -det A B C = 0 ∨ -det A B E = 0) ↔ (det C E A = 0 ∨ det C E B = 0 ∨ det A B C = 0 ∨ det A B E = 0) := by
    constructor <;> rintro (z | z | z | z) <;> omega
  simp only [e]
theorem cr_ec {A B C E : P3} (nA : NmP A) (nB : NmP B) (h : ¬ (det C E A = 0 ∧ det C E B = 0)) : crP A B E C = crP A B C E := by
  unfold crP
  have e3 : det E C A = -det C E A := (dets C E A).2.2.1
  have e4 : det E C B = -det C E B := (dets C E B).2.2.1
  rw [e3, e4, Int.neg_mul_neg, Int.mul_comm (det A B E)]
  by_cases h1 : 0 < det C E A * det C E B ∨ 0 < det A B C * det A B E
  · rw [if_pos h1, if_pos h1]
  rw [if_neg h1, if_neg h1]
  have nz : (meetX A B C E).2.2 ≠ 0 := meetX_ne nA nB (fun z => h1 (.inl z)) (by
    by_cases z : det C E A = 0
    · exact .inr fun w => h ⟨z, w⟩
    · exact .inl z)
  rw [meetX_dc, nrmP_neg nz]
  have e : (-det C E A = 0 ∨ -det C E B = 0 ∨ det A B E = 0 ∨ det A B C = 0) ↔ (det C E A = 0 ∨ det C E B = 0 ∨ det A B C = 0 ∨ det A B E = 0) := by
    constructor <;> rintro (z | z | z | z) <;> omega
  simp only [e]
theorem cr_sw {A B C E : P3} (nA : NmP A) (nB : NmP B) (h : ¬ (det C E A = 0 ∧ det C E B = 0)) : crP C E A B = crP A B C E := by
  unfold crP
  have o : (0 < det A B C * det A B E ∨ 0 < det C E A * det C E B) ↔ (0 < det C E A * det C E B ∨ 0 < det A B C * det A B E) := Or.comm
  simp only [o]
  by_cases h1 : 0 < det C E A * det C E B ∨ 0 < det A B C * det A B E
  · rw [if_pos h1, if_pos h1]
  rw [if_neg h1, if_neg h1]
  have nz : (meetX A B C E).2.2 ≠ 0 := meetX_ne nA nB (fun z => h1 (.inl z)) (by
    by_cases z : det C E A = 0
    · exact .inr fun w => h ⟨z, w⟩
    · exact .inl z)
  rw [meetX_sw, nrmP_neg nz]
  have e : (det A B C = 0 ∨ det A B E = 0 ∨ det C E A = 0 ∨ det C E B = 0) ↔ (det C E A = 0 ∨ det C E B = 0 ∨ det A B C = 0 ∨ det A B E = 0) := by
    constructor <;> rintro (z | z | z | z) <;> simp [z]
  simp only [e]
/-- THE MEETING, however told -/
theorem cross_ba {A B C E : P3} (nA : NmP A) (nB : NmP B) (nC : NmP C) (nE : NmP E) : crossP B A C E = crossP A B C E := by
  by_cases h : det C E A = 0 ∧ det C E B = 0
  · unfold crossP
    rw [if_pos h, if_pos ⟨h.2, h.1⟩, ov_ba nA nB]
  · rw [cross_cr nA nB nC nE h, cross_cr nB nA nC nE (fun z => h ⟨z.2, z.1⟩), cr_ba nA nB h]
theorem cross_ec {A B C E : P3} (nA : NmP A) (nB : NmP B) (nC : NmP C) (nE : NmP E) : crossP A B E C = crossP A B C E := by
  have e3 : det E C A = -det C E A := (dets C E A).2.2.1
  have e4 : det E C B = -det C E B := (dets C E B).2.2.1
  by_cases h : det C E A = 0 ∧ det C E B = 0
  · unfold crossP
    rw [if_pos h, if_pos ⟨by rw [e3, h.1]; rfl, by rw [e4, h.2]; rfl⟩, ov_ec nC nE]
  · rw [cross_cr nA nB nC nE h, cross_cr nA nB nE nC (fun z => h ⟨by omega, by omega⟩), cr_ec nA nB h]
theorem cross_sw {A B C E : P3} (nA : NmP A) (nB : NmP B) (nC : NmP C) (nE : NmP E) (hab : A ≠ B) (hce : C ≠ E) : crossP C E A B = crossP A B C E := by
  by_cases h : det C E A = 0 ∧ det C E B = 0
  · have g := col_sw nC nE hce h
    unfold crossP
    rw [if_pos h, if_pos g, ov_sw nA nB nC nE]
  · have g : ¬ (det A B C = 0 ∧ det A B E = 0) := fun z => h (col_sw nA nB hab z)
    rw [cross_cr nA nB nC nE h, cross_cr nC nE nA nB g, cr_sw nA nB h]
theorem sq_pos {x : Int} (h : x ≠ 0) : 0 < x * x := by
  rcases Int.lt_trichotomy x 0 with z | z | z
  · exact Int.mul_pos_of_neg_of_neg z z
  · exact absurd z h
  · exact Int.mul_pos z z
/-- two sides' product, by the shares: u, v the sides of the points in least terms -/
theorem sides_sign {u v k l K c e x : Int} (hk : 0 < k) (hl : 0 < l) (hK : 0 < K) (hx : x ≠ 0) (h1 : -(K * (x * c)) = k * u) (h2 : -(K * (x * e)) = l * v) : (0 < u * v ↔ 0 < c * e) ∧ (u * v < 0 ↔ c * e < 0) := by
  have e1 : (K * K * (x * x)) * (c * e) = (k * l) * (u * v) := by
    calc (K * K * (x * x)) * (c * e) = (-(K * (x * c))) * (-(K * (x * e))) := by grind
      _ = (k * u) * (l * v) := by rw [h1, h2]
      _ = (k * l) * (u * v) := by grind
  have p1 := Int.mul_pos (Int.mul_pos hK hK) (sq_pos hx)
  have p2 := Int.mul_pos hk hl
  generalize K * K * (x * x) = a at e1 p1
  generalize k * l = b at e1 p2
  generalize c * e = s at e1 ⊢
  generalize u * v = t at e1 ⊢
  rcases Int.lt_trichotomy s 0 with z | z | z <;> rcases Int.lt_trichotomy t 0 with w | w | w
  · omega
  · subst w; have := Int.mul_neg_of_pos_of_neg p1 z; rw [Int.mul_zero] at e1; omega
  · have := Int.mul_neg_of_pos_of_neg p1 z; have := Int.mul_pos p2 w; omega
  · subst z; have := Int.mul_neg_of_pos_of_neg p2 w; rw [Int.mul_zero] at e1; omega
  · omega
  · subst z; have := Int.mul_pos p2 w; rw [Int.mul_zero] at e1; omega
  · have := Int.mul_pos p1 z; have := Int.mul_neg_of_pos_of_neg p2 w; omega
  · subst w; have := Int.mul_pos p1 z; rw [Int.mul_zero] at e1; omega
  · omega
theorem gon_ne {P : P3} {f : Fr × Fr} {a b : Fr} (nP : NmP P) (hf : RedP f) (ha : 0 < a.2) (hb : 0 < b.2) (hn : f.1.1 ≠ 0 ∨ f.2.1 ≠ 0) (hab : b.1 * a.2 - a.1 * b.2 ≠ 0) : nrmP (gonP P f a) ≠ nrmP (gonP P f b) := by
  intro h
  have A0 := gonP_pos (s := a) nP hf ha
  have B0 := gonP_pos (s := b) nP hf hb
  obtain ⟨k, hk, ek⟩ := nrmP_scale A0
  obtain ⟨l, hl, el⟩ := nrmP_scale B0
  rw [h] at ek
  have key : ∀ X Y N : P3, X = mulP k N → Y = mulP l N → X.1 * Y.2.2 - Y.1 * X.2.2 = 0 ∧ X.2.1 * Y.2.2 - Y.2.1 * X.2.2 = 0 := by
    intro X Y N h1 h2
    rw [h1, h2]
    unfold mulP
    simp only
    constructor <;> grind
  obtain ⟨x1, x2⟩ := key _ _ _ ek el
  have pz := nmP_ne nP
  have f1 := red_ne hf.1
  have f2 := red_ne hf.2
  rcases hn with w | w
  · have e : (gonP P f a).1 * (gonP P f b).2.2 - (gonP P f b).1 * (gonP P f a).2.2 = -((P.2.2 * P.2.2) * (f.1.2 * (f.2.2 * f.2.2)) * f.1.1 * (b.1 * a.2 - a.1 * b.2)) := by unfold gonP; simp only; grind
    rw [e] at x1
    have := Int.mul_ne_zero (Int.mul_ne_zero (Int.mul_ne_zero (Int.mul_ne_zero pz pz) (Int.mul_ne_zero f1 (Int.mul_ne_zero f2 f2))) w) hab
    omega
  · have e : (gonP P f a).2.1 * (gonP P f b).2.2 - (gonP P f b).2.1 * (gonP P f a).2.2 = -((P.2.2 * P.2.2) * (f.2.2 * (f.1.2 * f.1.2)) * f.2.1 * (b.1 * a.2 - a.1 * b.2)) := by unfold gonP; simp only; grind
    rw [e] at x2
    have := Int.mul_ne_zero (Int.mul_ne_zero (Int.mul_ne_zero (Int.mul_ne_zero pz pz) (Int.mul_ne_zero f2 (Int.mul_ne_zero f1 f1))) w) hab
    omega
theorem gon_line {P : P3} {f : Fr × Fr} {a b : Fr} (nP : NmP P) (hf : RedP f) (ha : 0 < a.2) (hb : 0 < b.2) : det (nrmP (gonP P f a)) (nrmP (gonP P f b)) P = 0 := by
  have A0 := gonP_pos (s := a) nP hf ha
  have B0 := gonP_pos (s := b) nP hf hb
  obtain ⟨k, hk, e⟩ := det_nrm A0 B0 nP.pos
  rw [nrmP_self nP] at e
  have z : det (gonP P f a) (gonP P f b) P = 0 := by unfold det lin gonP; simp only; grind
  rw [z] at e
  rcases Int.mul_eq_zero.mp e.symm with q | q
  · omega
  · exact q
end Rf


set_option Elab.async false
set_option linter.all false
set_option maxRecDepth 100000
set_option maxHeartbeats 4000000
/-! Rg, part W: two ways out of one point; points of one line. -/
namespace Rf
open PySem PySem.Spec PyProof.Rows L2
theorem ahead_iff {P R : P3} : ahead P R = true ↔ (P.1 * R.2.2 < R.1 * P.2.2 ∨ (P.1 * R.2.2 = R.1 * P.2.2 ∧ P.2.1 * R.2.2 < R.2.1 * P.2.2)) := by
  unfold ahead
  by_cases e : P.1 * R.2.2 = R.1 * P.2.2
  · rw [if_neg (by simpa using e)]
    constructor
    · intro h; exact .inr ⟨e, of_decide_eq_true h⟩
    · rintro (h | ⟨_, h⟩)
      · omega
      · exact decide_eq_true h
  · rw [if_pos e]
    constructor
    · intro h; exact .inl (of_decide_eq_true h)
    · rintro (h | ⟨h, _⟩)
      · exact decide_eq_true h
      · exact absurd h e
theorem red_w (x : Int) : Red (x, 1) := ⟨by show (0 : Int) < 1; decide, by show Int.gcd x 1 = 1; exact Int.gcd_one_right _⟩
/-- turned by a right angle -/
def turn (f : Fr × Fr) : Fr × Fr := (tms (-1, 1) f.2, f.1)
theorem m1ne : ((-1, 1) : Fr).2 ≠ 0 := by decide
theorem turn_ok {f : Fr × Fr} (h : RedP f) : RedP (turn f) := ⟨(tms_ok m1ne (red_ne h.2)).1, h.1⟩
theorem turn_cw {f : Fr × Fr} (h : RedP f) (hn : f.1.1 ≠ 0 ∨ f.2.1 ≠ 0) : cw f (turn f) ≠ 0 := by
  obtain ⟨r, q⟩ := tms_ok (p := (-1, 1)) m1ne (red_ne h.2)
  have e := q.eq
  have p1 := h.1.pos
  have p2 := h.2.pos
  have p3 := r.pos
  show (f.1.1 * f.2.2) * (f.1.1 * (tms (-1, 1) f.2).2) - (f.2.1 * f.1.2) * ((tms (-1, 1) f.2).1 * f.1.2) ≠ 0
  simp only at e
  generalize (tms (-1, 1) f.2).1 = x at *
  generalize (tms (-1, 1) f.2).2 = y at *
  intro z
  have k : f.1.1 * f.1.1 * (f.2.2 * f.2.2 * y) + f.2.1 * f.2.1 * (f.1.2 * f.1.2 * y) = 0 := by grind
  have y1 : 0 < f.2.2 * f.2.2 * y := Int.mul_pos (Int.mul_pos p2 p2) p3
  have y2 : 0 < f.1.2 * f.1.2 * y := Int.mul_pos (Int.mul_pos p1 p1) p3
  rcases hn with w | w
  · have := Int.mul_pos (sq_pos w) y1
    have := Int.mul_nonneg (show 0 ≤ f.2.1 * f.2.1 by by_cases q : f.2.1 = 0; rw [q]; decide; have := sq_pos q; omega) (show 0 ≤ f.1.2 * f.1.2 * y by omega)
    omega
  · have := Int.mul_pos (sq_pos w) y2
    have := Int.mul_nonneg (show 0 ≤ f.1.1 * f.1.1 by by_cases q : f.1.1 = 0; rw [q]; decide; have := sq_pos q; omega) (show 0 ≤ f.2.2 * f.2.2 * y by omega)
    omega

theorem sides_zero {u k K c x : Int} (hk : 0 < k) (hK : 0 < K) (hx : x ≠ 0) (h1 : -(K * (x * c)) = k * u) : u = 0 ↔ c = 0 := by
  constructor
  · intro z
    rw [z, Int.mul_zero] at h1
    have : K * (x * c) = 0 := by omega
    rcases Int.mul_eq_zero.mp this with q | q
    · omega
    · exact (Int.mul_eq_zero.mp q).resolve_left hx
  · intro z
    rw [z, Int.mul_zero, Int.mul_zero] at h1
    rcases Int.mul_eq_zero.mp (show k * u = 0 by omega) with q | q
    · omega
    · exact q
/-- how two stretches on two ways out of one point meet -/
theorem gen_cross {P : P3} {f g : Fr × Fr} {a b c d : Fr} (nP : NmP P) (hf : RedP f) (hg : RedP g) (ha : 0 < a.2) (hb : 0 < b.2) (hc : 0 < c.2) (hd : 0 < d.2) (hab : b.1 * a.2 - a.1 * b.2 ≠ 0) (hcd : d.1 * c.2 - c.1 * d.2 ≠ 0) (hw : cw f g ≠ 0) :
    crossP (nrmP (gonP P f a)) (nrmP (gonP P f b)) (nrmP (gonP P g c)) (nrmP (gonP P g d)) = if 0 < a.1 * b.1 ∨ 0 < c.1 * d.1 then tNone else if a.1 * b.1 = 0 ∨ c.1 * d.1 = 0 then tTouch P else tCross P := by
  have A0 := gonP_pos (s := a) nP hf ha
  have B0 := gonP_pos (s := b) nP hf hb
  have C0 := gonP_pos (s := c) nP hg hc
  have D0 := gonP_pos (s := d) nP hg hd
  have nA := nrmP_nm (X := gonP P f a) (by omega)
  have nB := nrmP_nm (X := gonP P f b) (by omega)
  have nC := nrmP_nm (X := gonP P g c) (by omega)
  have nD := nrmP_nm (X := gonP P g d) (by omega)
  obtain ⟨k1, p1, e1⟩ := det_nrm C0 D0 A0
  obtain ⟨k2, p2, e2⟩ := det_nrm C0 D0 B0
  obtain ⟨k3, p3, e3⟩ := det_nrm A0 B0 C0
  obtain ⟨k4, p4, e4⟩ := det_nrm A0 B0 D0
  rw [gonP_det] at e1 e2 e3 e4
  rw [cw_sw f g] at e3 e4
  have fw : 0 < f.1.2 * f.2.2 := Int.mul_pos hf.1.pos hf.2.pos
  have gw : 0 < g.1.2 * g.2.2 := Int.mul_pos hg.1.pos hg.2.pos
  have pz : 0 < P.2.2 * P.2.2 * P.2.2 := Int.mul_pos (Int.mul_pos nP.pos nP.pos) nP.pos
  have g1 := Int.mul_pos pz gw
  have g2 := Int.mul_pos pz fw
  have X1 := Int.mul_ne_zero hcd hw
  have X2 : (b.1 * a.2 - a.1 * b.2) * -cw f g ≠ 0 := Int.mul_ne_zero hab (by omega)
  have y1 := sides_sign (c := a.1) (e := b.1) (x := (d.1 * c.2 - c.1 * d.2) * cw f g) p1 p2 g1 X1 (by rw [← e1]; grind) (by rw [← e2]; grind)
  have y2 := sides_sign (c := c.1) (e := d.1) (x := (b.1 * a.2 - a.1 * b.2) * -cw f g) p3 p4 g2 X2 (by rw [← e3]; grind) (by rw [← e4]; grind)
  have z1 := sides_zero (c := a.1) p1 g1 X1 (by rw [← e1]; grind)
  have z2 := sides_zero (c := b.1) p2 g1 X1 (by rw [← e2]; grind)
  have mz : (meetX (gonP P f a) (gonP P f b) (gonP P g c) (gonP P g d)).2.2 ≠ 0 := by
    rw [gonP_meet]
    exact Int.mul_ne_zero (Int.mul_ne_zero (Int.mul_ne_zero (by omega) (Int.mul_ne_zero (by omega) (by omega))) (Int.mul_ne_zero (Int.mul_ne_zero hcd hab) hw)) (nmP_ne nP)
  have pt : nrmP (meetX (nrmP (gonP P f a)) (nrmP (gonP P f b)) (nrmP (gonP P g c)) (nrmP (gonP P g d))) = P := by
    rw [meet_nrm A0 B0 C0 D0 mz, gonP_meet, nrmP_mul, nrmP_self nP]
    · exact Int.mul_ne_zero (Int.mul_ne_zero (by omega) (Int.mul_ne_zero (by omega) (by omega))) (Int.mul_ne_zero (Int.mul_ne_zero hcd hab) hw)
    · exact nmP_ne nP
  have nz : ¬ (det (nrmP (gonP P g c)) (nrmP (gonP P g d)) (nrmP (gonP P f a)) = 0 ∧ det (nrmP (gonP P g c)) (nrmP (gonP P g d)) (nrmP (gonP P f b)) = 0) := by
    intro ⟨q1, q2⟩
    rw [z1.mp q1, z2.mp q2] at hab
    simp at hab
  rw [cross_cr nA nB nC nD nz]
  unfold crP
  rw [pt]
  generalize det (nrmP (gonP P g c)) (nrmP (gonP P g d)) (nrmP (gonP P f a)) = s1 at *
  generalize det (nrmP (gonP P g c)) (nrmP (gonP P g d)) (nrmP (gonP P f b)) = s2 at *
  generalize det (nrmP (gonP P f a)) (nrmP (gonP P f b)) (nrmP (gonP P g c)) = s3 at *
  generalize det (nrmP (gonP P f a)) (nrmP (gonP P f b)) (nrmP (gonP P g d)) = s4 at *
  have h12 : s1 * s2 = 0 ↔ a.1 * b.1 = 0 := by
    obtain ⟨i1, i2⟩ := y1
    generalize s1 * s2 = S at *
    generalize a.1 * b.1 = T at *
    constructor <;> intro z
    · have := mt i1.mpr (by omega); have := mt i2.mpr (by omega); omega
    · have := mt i1.mp (by omega); have := mt i2.mp (by omega); omega
  have h34 : s3 * s4 = 0 ↔ c.1 * d.1 = 0 := by
    obtain ⟨i1, i2⟩ := y2
    generalize s3 * s4 = S at *
    generalize c.1 * d.1 = T at *
    constructor <;> intro z
    · have := mt i1.mpr (by omega); have := mt i2.mpr (by omega); omega
    · have := mt i1.mp (by omega); have := mt i2.mp (by omega); omega
  by_cases q : 0 < a.1 * b.1 ∨ 0 < c.1 * d.1
  · rw [if_pos q, if_pos (q.imp y1.1.mpr y2.1.mpr)]
  · rw [if_neg q, if_neg (fun z => q (z.imp y1.1.mp y2.1.mp))]
    by_cases r : a.1 * b.1 = 0 ∨ c.1 * d.1 = 0
    · rw [if_pos r, if_pos]
      rcases r with r | r
      · rcases Int.mul_eq_zero.mp (h12.mpr r) with z | z
        · exact .inl z
        · exact .inr (.inl z)
      · rcases Int.mul_eq_zero.mp (h34.mpr r) with z | z
        · exact .inr (.inr (.inl z))
        · exact .inr (.inr (.inr z))
    · rw [if_neg r, if_neg]
      intro z
      refine r ?_
      rcases z with z | z | z | z
      · exact .inl (h12.mp (by rw [z, Int.zero_mul]))
      · exact .inl (h12.mp (by rw [z, Int.mul_zero]))
      · exact .inr (h34.mp (by rw [z, Int.zero_mul]))
      · exact .inr (h34.mp (by rw [z, Int.mul_zero]))
/-- a way's sense -/
def fwdF (f : Fr × Fr) : Prop := 0 < f.1.1 ∨ (f.1.1 = 0 ∧ 0 < f.2.1)
theorem sgn_lem {A C c d u : Int} (hA : 0 < A) (hC : 0 < C) (e : A * (c * d) = C * u) : (0 < c → ((u < 0 ↔ d < 0) ∧ (u = 0 ↔ d = 0))) ∧ (c < 0 → ((u < 0 ↔ 0 < d) ∧ (u = 0 ↔ d = 0))) ∧ (c = 0 → u = 0) ∧ (d = 0 → u = 0) := by
  have neg : ∀ {x y : Int}, 0 < x → (x * y < 0 ↔ y < 0) ∧ (x * y = 0 ↔ y = 0) ∧ (0 < x * y ↔ 0 < y) := by
    intro x y hx
    rcases Int.lt_trichotomy y 0 with z | z | z
    · have := Int.mul_neg_of_pos_of_neg hx z; omega
    · subst z; rw [Int.mul_zero]; omega
    · have := Int.mul_pos hx z; omega
  have h1 := neg (y := c * d) hA
  have h2 := neg (y := u) hC
  rw [e] at h1
  refine ⟨fun h => ?_, fun h => ?_, fun h => ?_, fun h => ?_⟩
  · have h3 := neg (y := d) h
    omega
  · have h3 := neg (x := -c) (y := d) (by omega)
    rw [Int.neg_mul] at h3
    omega
  · rw [h, Int.zero_mul] at h1; omega
  · rw [h, Int.mul_zero] at h1; omega
theorem line_ahead {P : P3} {f : Fr × Fr} {s t : Fr} (nP : NmP P) (hf : RedP f) (hn : f.1.1 ≠ 0 ∨ f.2.1 ≠ 0) (hs : 0 < s.2) (ht : 0 < t.2) :
    (fwdF f → (ahead (nrmP (gonP P f s)) (nrmP (gonP P f t)) = true ↔ s.1 * t.2 < t.1 * s.2)) ∧ (¬ fwdF f → (ahead (nrmP (gonP P f s)) (nrmP (gonP P f t)) = true ↔ t.1 * s.2 < s.1 * t.2)) := by
  have S0 := gonP_pos (s := s) nP hf hs
  have T0 := gonP_pos (s := t) nP hf ht
  obtain ⟨k, hk, ek⟩ := nrmP_scale S0
  obtain ⟨l, hl, el⟩ := nrmP_scale T0
  have key : ∀ X Y M N : P3, X = mulP k M → Y = mulP l N → X.1 * Y.2.2 - Y.1 * X.2.2 = (k * l) * (M.1 * N.2.2 - N.1 * M.2.2) ∧ X.2.1 * Y.2.2 - Y.2.1 * X.2.2 = (k * l) * (M.2.1 * N.2.2 - N.2.1 * M.2.2) := by
    intro X Y M N h1 h2
    rw [h1, h2]
    unfold mulP
    simp only
    constructor <;> grind
  obtain ⟨x1, x2⟩ := key _ _ _ _ ek el
  have e1 : (gonP P f s).1 * (gonP P f t).2.2 - (gonP P f t).1 * (gonP P f s).2.2 = (P.2.2 * P.2.2 * (f.1.2 * (f.2.2 * f.2.2))) * (f.1.1 * (s.1 * t.2 - t.1 * s.2)) := by unfold gonP; simp only; grind
  have e2 : (gonP P f s).2.1 * (gonP P f t).2.2 - (gonP P f t).2.1 * (gonP P f s).2.2 = (P.2.2 * P.2.2 * (f.2.2 * (f.1.2 * f.1.2))) * (f.2.1 * (s.1 * t.2 - t.1 * s.2)) := by unfold gonP; simp only; grind
  rw [e1] at x1
  rw [e2] at x2
  have kl := Int.mul_pos hk hl
  have pz := nP.pos
  have f1 := hf.1.pos
  have f2 := hf.2.pos
  have K1 : 0 < P.2.2 * P.2.2 * (f.1.2 * (f.2.2 * f.2.2)) := Int.mul_pos (Int.mul_pos pz pz) (Int.mul_pos f1 (Int.mul_pos f2 f2))
  have K2 : 0 < P.2.2 * P.2.2 * (f.2.2 * (f.1.2 * f.1.2)) := Int.mul_pos (Int.mul_pos pz pz) (Int.mul_pos f2 (Int.mul_pos f1 f1))
  rw [ahead_iff]
  generalize nrmP (gonP P f s) = M at *
  generalize nrmP (gonP P f t) = N at *
  generalize P.2.2 * P.2.2 * (f.1.2 * (f.2.2 * f.2.2)) = A at *
  generalize P.2.2 * P.2.2 * (f.2.2 * (f.1.2 * f.1.2)) = B at *
  generalize k * l = C at *
  have hd : s.1 * t.2 < t.1 * s.2 ↔ s.1 * t.2 - t.1 * s.2 < 0 := by omega
  have hd2 : t.1 * s.2 < s.1 * t.2 ↔ 0 < s.1 * t.2 - t.1 * s.2 := by omega
  rw [hd, hd2]
  generalize s.1 * t.2 - t.1 * s.2 = d at *
  have m1 : M.1 * N.2.2 < N.1 * M.2.2 ↔ M.1 * N.2.2 - N.1 * M.2.2 < 0 := by omega
  have m2 : M.1 * N.2.2 = N.1 * M.2.2 ↔ M.1 * N.2.2 - N.1 * M.2.2 = 0 := by omega
  have m3 : M.2.1 * N.2.2 < N.2.1 * M.2.2 ↔ M.2.1 * N.2.2 - N.2.1 * M.2.2 < 0 := by omega
  rw [m1, m2, m3]
  generalize M.1 * N.2.2 - N.1 * M.2.2 = u at *
  generalize M.2.1 * N.2.2 - N.2.1 * M.2.2 = v at *
  obtain ⟨u1, u2, u3, _⟩ := sgn_lem K1 kl x1
  obtain ⟨v1, v2, _, v4⟩ := sgn_lem K2 kl x2
  unfold fwdF
  constructor
  · intro h
    rcases h with h | ⟨h, h'⟩
    · have := u1 h
      omega
    · have := u3 h
      have := v1 h'
      omega
  · intro h
    rcases Int.lt_trichotomy f.1.1 0 with z | z | z
    · have := u2 z
      omega
    · have := u3 z
      have hv : f.2.1 < 0 := by
        rcases Int.lt_trichotomy f.2.1 0 with y | y | y
        · exact y
        · exact absurd y (hn.resolve_left (fun q => q z))
        · exact absurd (.inr ⟨z, y⟩) h
      have := v2 hv
      omega
    · exact absurd (.inl z) h
end Rf


set_option Elab.async false
set_option linter.all false
set_option maxRecDepth 100000
set_option maxHeartbeats 4000000
/-! Rg, part X: stretches of one line by numbers; beside one another. -/
namespace Rf
open PySem PySem.Spec PyProof.Rows L2
def mxI (i j : Int) : Int := if i < j then j else i
def mnI (i j : Int) : Int := if j < i then j else i
/-- points of a line, by numbers -/
def nPt (P : P3) (f : Fr × Fr) (m : Int) : P3 := nrmP (gonP P f (m, 1))
section
variable {P : P3} {f : Fr × Fr}
theorem nPt_nm (nP : NmP P) (hf : RedP f) (m : Int) : NmP (nPt P f m) := nrmP_nm (by have := gonP_pos (s := (m, 1)) nP hf (by exact Int.zero_lt_one); omega)
theorem nPt_inj (nP : NmP P) (hf : RedP f) (hn : f.1.1 ≠ 0 ∨ f.2.1 ≠ 0) {m n : Int} : nPt P f m = nPt P f n ↔ m = n := by
  constructor
  · intro h
    rcases Int.lt_trichotomy m n with z | z | z
    · exact absurd h (gon_ne nP hf (a := (m, 1)) (b := (n, 1)) (by exact Int.zero_lt_one) (by exact Int.zero_lt_one) hn (by simp only; omega))
    · exact z
    · exact absurd h (gon_ne nP hf (a := (m, 1)) (b := (n, 1)) (by exact Int.zero_lt_one) (by exact Int.zero_lt_one) hn (by simp only; omega))
  · intro h; rw [h]
theorem nPt_ahead (nP : NmP P) (hf : RedP f) (hn : f.1.1 ≠ 0 ∨ f.2.1 ≠ 0) (m n : Int) : (fwdF f → ahead (nPt P f m) (nPt P f n) = decide (m < n)) ∧ (¬ fwdF f → ahead (nPt P f m) (nPt P f n) = decide (n < m)) := by
  obtain ⟨h1, h2⟩ := line_ahead (s := (m, 1)) (t := (n, 1)) nP hf hn (by exact Int.zero_lt_one) (by exact Int.zero_lt_one)
  constructor
  · intro h
    have e := h1 h
    simp only [Int.mul_one] at e
    exact Bool.eq_iff_iff.mpr (by rw [decide_eq_true_eq]; exact e)
  · intro h
    have e := h2 h
    simp only [Int.mul_one] at e
    exact Bool.eq_iff_iff.mpr (by rw [decide_eq_true_eq]; exact e)
theorem gon_line3 {a b c : Fr} (nP : NmP P) (hf : RedP f) (ha : 0 < a.2) (hb : 0 < b.2) (hc : 0 < c.2) : det (nrmP (gonP P f a)) (nrmP (gonP P f b)) (nrmP (gonP P f c)) = 0 := by
  obtain ⟨k, hk, e⟩ := det_nrm (gonP_pos (s := a) nP hf ha) (gonP_pos (s := b) nP hf hb) (gonP_pos (s := c) nP hf hc)
  have z : det (gonP P f a) (gonP P f b) (gonP P f c) = 0 := by unfold det lin gonP; simp only; grind
  rw [z] at e
  rcases Int.mul_eq_zero.mp e.symm with q | q
  · omega
  · exact q
/-- what is due of two stretches of one line, by numbers -/
def numD (P : P3) (f : Fr × Fr) (a b c d : Int) : D :=
  if mxI (mnI a b) (mnI c d) < mnI (mxI a b) (mxI c d) then tAlong
  else if mxI (mnI a b) (mnI c d) = mnI (mxI a b) (mxI c d) then tTouch (nPt P f (mxI (mnI a b) (mnI c d))) else tNone
theorem line_cross (nP : NmP P) (hf : RedP f) (hn : f.1.1 ≠ 0 ∨ f.2.1 ≠ 0) (a b c d : Int) : crossP (nPt P f a) (nPt P f b) (nPt P f c) (nPt P f d) = numD P f a b c d := by
  unfold crossP
  rw [if_pos ⟨gon_line3 nP hf (by exact Int.zero_lt_one) (by exact Int.zero_lt_one) (by exact Int.zero_lt_one), gon_line3 nP hf (by exact Int.zero_lt_one) (by exact Int.zero_lt_one) (by exact Int.zero_lt_one)⟩]
  have A := nPt_ahead nP hf hn
  have I := @nPt_inj P f nP hf hn
  have pk : ∀ (p : Prop) [Decidable p] (x y : Int), (if p then nPt P f x else nPt P f y) = nPt P f (if p then x else y) := by intro p _ x y; split <;> rfl
  have hg : ∀ x y : Int, (if y < x then x else y) = mxI x y := by intro x y; unfold mxI; repeat' split <;> omega
  have lw : ∀ x y : Int, (if x < y then x else y) = mnI x y := by intro x y; unfold mnI; repeat' split <;> omega
  unfold ovP numD
  by_cases h : fwdF f
  · have A1 := fun m n => (A m n).1 h
    have l1 : ∀ x y, lowP (nPt P f x) (nPt P f y) = nPt P f (mnI x y) := fun x y => by unfold lowP mnI; simp only [A1, decide_eq_true_eq, pk]
    have l2 : ∀ x y, highP (nPt P f x) (nPt P f y) = nPt P f (mxI x y) := fun x y => by unfold highP; simp only [A1, decide_eq_true_eq, pk, hg]
    have l3 : ∀ x y, maxP (nPt P f x) (nPt P f y) = nPt P f (mxI x y) := fun x y => by unfold maxP mxI; simp only [A1, decide_eq_true_eq, pk]
    have l4 : ∀ x y, minP (nPt P f x) (nPt P f y) = nPt P f (mnI x y) := fun x y => by unfold minP mnI; simp only [A1, decide_eq_true_eq, pk]
    simp only [l1, l2, l3, l4, A1, decide_eq_true_eq, I]
    generalize mxI (mnI a b) (mnI c d) = x
    generalize mnI (mxI a b) (mxI c d) = y
    by_cases q : x < y
    · rw [if_neg (by omega), if_pos q, if_pos q]
    · rw [if_neg q, if_neg q]
  · have A1 := fun m n => (A m n).2 h
    have l1 : ∀ x y, lowP (nPt P f x) (nPt P f y) = nPt P f (mxI x y) := fun x y => by unfold lowP mxI; simp only [A1, decide_eq_true_eq, pk]
    have l2 : ∀ x y, highP (nPt P f x) (nPt P f y) = nPt P f (mnI x y) := fun x y => by unfold highP; simp only [A1, decide_eq_true_eq, pk, lw]
    have l3 : ∀ x y, maxP (nPt P f x) (nPt P f y) = nPt P f (mnI x y) := fun x y => by unfold maxP mnI; simp only [A1, decide_eq_true_eq, pk]
    have l4 : ∀ x y, minP (nPt P f x) (nPt P f y) = nPt P f (mxI x y) := fun x y => by unfold minP mxI; simp only [A1, decide_eq_true_eq, pk]
    simp only [l1, l2, l3, l4, A1, decide_eq_true_eq, I]
    generalize mxI (mnI a b) (mnI c d) = x
    generalize mnI (mxI a b) (mxI c d) = y
    by_cases q : x < y
    · rw [if_neg (by omega), if_pos q, if_pos q]
    · rw [if_neg q, if_neg q]
      by_cases r : x = y
      · rw [if_pos r.symm, if_pos r, r]
      · rw [if_neg (fun z => r z.symm), if_neg r]
/-! ### beside one another -/
/-- a point beside: p + c f + s g -/
def bes (P : P3) (f : Fr × Fr) (c : Int) (g : Fr × Fr) (s : Fr) : P3 := gonP (nPt P f c) g s
theorem beside_cross {g : Fr × Fr} {s : Fr} (nP : NmP P) (hf : RedP f) (hg : RedP g) (hs : 0 < s.2) (s0 : s.1 ≠ 0) (hw : cw f g ≠ 0) (a b c d : Int) (hcd : c ≠ d) : crossP (nPt P f a) (nPt P f b) (nrmP (bes P f c g s)) (nrmP (bes P f d g s)) = tNone ∧ nrmP (bes P f c g s) ≠ nrmP (bes P f d g s) := by
  have one : (0 : Int) < 1 := by decide
  have C0 := gonP_pos (s := (c, 1)) nP hf one
  have D0 := gonP_pos (s := (d, 1)) nP hf one
  have nC := nPt_nm nP hf c
  have nD := nPt_nm nP hf d
  obtain ⟨k, hk, ek⟩ := nrmP_scale C0
  obtain ⟨l, hl, el⟩ := nrmP_scale D0
  have CP := gonP_pos (s := s) nC hg hs
  have DP := gonP_pos (s := s) nD hg hs
  -- the sides of any number on the line are the same
  have side : ∀ m : Int, ∃ j : Int, 0 < j ∧ (((c - d) * s.1) * cw f g) * (P.2.2 * P.2.2 * P.2.2 * (s.2 * (f.1.2 * f.2.2 * (f.1.2 * f.2.2) * (g.1.2 * g.2.2)))) = j * det (nrmP (bes P f c g s)) (nrmP (bes P f d g s)) (nPt P f m) := by
    intro m
    have M0 := gonP_pos (s := (m, 1)) nP hf one
    obtain ⟨j, hj, e⟩ := det_nrm (X := bes P f c g s) (Y := bes P f d g s) (Z := gonP P f (m, 1)) CP DP M0
    refine ⟨k * l * j, Int.mul_pos (Int.mul_pos hk hl) hj, ?_⟩
    show _ = k * l * j * det (nrmP (bes P f c g s)) (nrmP (bes P f d g s)) (nrmP (gonP P f (m, 1)))
    rw [show k * l * j * det (nrmP (bes P f c g s)) (nrmP (bes P f d g s)) (nrmP (gonP P f (m, 1))) = k * l * (j * det (nrmP (bes P f c g s)) (nrmP (bes P f d g s)) (nrmP (gonP P f (m, 1)))) by grind, ← e]
    have sc : ∀ X Y Z : P3, ∀ x y : Int, det (gonP (mulP x X) g s) (gonP (mulP y Y) g s) Z = x * y * det (gonP X g s) (gonP Y g s) Z := by
      intro X Y Z x y
      unfold det lin gonP mulP
      simp only
      grind
    have e2 := sc (nPt P f c) (nPt P f d) (gonP P f (m, 1)) k l
    unfold bes
    rw [← e2]
    show _ = det (gonP (mulP k (nrmP (gonP P f (c, 1)))) g s) (gonP (mulP l (nrmP (gonP P f (d, 1)))) g s) (gonP P f (m, 1))
    rw [← ek, ← el]
    unfold det lin gonP cw
    simp only
    grind
  obtain ⟨j1, p1, q1⟩ := side a
  obtain ⟨j2, p2, q2⟩ := side b
  have pos : 0 < P.2.2 * P.2.2 * P.2.2 * (s.2 * (f.1.2 * f.2.2 * (f.1.2 * f.2.2) * (g.1.2 * g.2.2))) := by
    have z1 := nP.pos
    have z2 := hf.1.pos
    have z3 := hf.2.pos
    have z4 := hg.1.pos
    have z5 := hg.2.pos
    exact Int.mul_pos (Int.mul_pos (Int.mul_pos z1 z1) z1) (Int.mul_pos hs (Int.mul_pos (Int.mul_pos (Int.mul_pos z2 z3) (Int.mul_pos z2 z3)) (Int.mul_pos z4 z5)))
  have nz : (((c - d) * s.1) * cw f g) * (P.2.2 * P.2.2 * P.2.2 * (s.2 * (f.1.2 * f.2.2 * (f.1.2 * f.2.2) * (g.1.2 * g.2.2)))) ≠ 0 := Int.mul_ne_zero (Int.mul_ne_zero (Int.mul_ne_zero (by omega) s0) hw) (by omega)
  generalize (((c - d) * s.1) * cw f g) * (P.2.2 * P.2.2 * P.2.2 * (s.2 * (f.1.2 * f.2.2 * (f.1.2 * f.2.2) * (g.1.2 * g.2.2)))) = K at *
  have ne : nrmP (bes P f c g s) ≠ nrmP (bes P f d g s) := by
    intro z
    rw [z] at q1
    have : det (nrmP (bes P f d g s)) (nrmP (bes P f d g s)) (nPt P f a) = 0 := by unfold det lin; simp only; grind
    rw [this, Int.mul_zero] at q1
    exact nz q1
  refine ⟨?_, ne⟩
  unfold crossP
  generalize det (nrmP (bes P f c g s)) (nrmP (bes P f d g s)) (nPt P f a) = u at *
  generalize det (nrmP (bes P f c g s)) (nrmP (bes P f d g s)) (nPt P f b) = v at *
  have u0 : u ≠ 0 := fun z => nz (by rw [q1, z, Int.mul_zero])
  have uv : 0 < u * v := by
    have e : (j1 * j2) * (u * v) = K * K := by
      calc (j1 * j2) * (u * v) = (j1 * u) * (j2 * v) := by grind
        _ = K * K := by rw [← q1, ← q2]
    have kk := sq_pos nz
    rcases Int.lt_trichotomy (u * v) 0 with z | z | z
    · have := Int.mul_neg_of_pos_of_neg (Int.mul_pos p1 p2) z; omega
    · rw [z, Int.mul_zero] at e; omega
    · exact z
  rw [if_neg (fun z => u0 z.1), if_pos (.inl uv)]
end
end Rf


set_option Elab.async false
set_option linter.all false
set_option maxRecDepth 100000
set_option maxHeartbeats 4000000
/-! Rg, part Y: ways put together. -/
namespace Rf
open PySem PySem.Spec PyProof.Rows L2
section
variable {P : P3} {f : Fr × Fr}
theorem gonP_mul (k : Int) (X : P3) (s : Fr) : gonP (mulP k X) f s = mulP k (gonP X f s) := by
  unfold gonP mulP
  simp only
  refine p3_eq ?_ ?_ ?_ <;> simp only <;> grind
theorem gon_same {s t : Fr} (nP : NmP P) (hf : RedP f) (hs : 0 < s.2) (ht : 0 < t.2) (e : s.1 * t.2 = t.1 * s.2) : nrmP (gonP P f s) = nrmP (gonP P f t) := by
  have S0 := gonP_pos (s := s) nP hf hs
  have T0 := gonP_pos (s := t) nP hf ht
  have x : mulP t.2 (gonP P f s) = mulP s.2 (gonP P f t) := by
    unfold gonP mulP
    refine p3_eq ?_ ?_ ?_ <;> simp only <;> grind
  rw [← nrmP_mul (k := t.2) (X := gonP P f s) (by omega) (by omega), x, nrmP_mul (by omega) (by omega)]
theorem gon_add {s t : Fr} (nP : NmP P) (hf : RedP f) (hs : 0 < s.2) (ht : 0 < t.2) : nrmP (gonP (nrmP (gonP P f s)) f t) = nrmP (gonP P f (s.1 * t.2 + t.1 * s.2, s.2 * t.2)) := by
  have S0 := gonP_pos (s := s) nP hf hs
  have nS := nrmP_nm (X := gonP P f s) (by omega)
  have T0 := gonP_pos (s := t) nS hf ht
  obtain ⟨k, hk, ek⟩ := nrmP_scale S0
  have hF : 0 < f.1.2 * f.2.2 := Int.mul_pos hf.1.pos hf.2.pos
  have Q0 := gonP_pos (s := (s.1 * t.2 + t.1 * s.2, s.2 * t.2)) nP hf (Int.mul_pos hs ht)
  have x : mulP k (gonP (nrmP (gonP P f s)) f t) = mulP (f.1.2 * f.2.2) (gonP P f (s.1 * t.2 + t.1 * s.2, s.2 * t.2)) := by
    rw [← gonP_mul, ← ek]
    unfold gonP mulP
    refine p3_eq ?_ ?_ ?_ <;> simp only <;> grind
  rw [← nrmP_mul (k := k) (X := gonP (nrmP (gonP P f s)) f t) (by omega) (by omega), x, nrmP_mul (by omega) (by omega)]
theorem gon_zero {t : Int} (nP : NmP P) (hf : RedP f) (ht : 0 < t) : nrmP (gonP P f (0, t)) = P := by
  have hF : 0 < f.1.2 * f.2.2 := Int.mul_pos hf.1.pos hf.2.pos
  have x : gonP P f (0, t) = mulP (t * (f.1.2 * f.2.2)) P := by
    unfold gonP mulP
    refine p3_eq ?_ ?_ ?_ <;> simp only <;> grind
  have := Int.mul_pos ht hF
  rw [x, nrmP_mul (by omega) (nmP_ne nP), nrmP_self nP]
/-- first and last point of a way, from a point on it -/
theorem way_ends {s : Fr} (nP : NmP P) (hf : RedP f) (hs : 0 < s.2) : nrmP (gonP (nrmP (gonP P f s)) f (-s.1, s.2)) = P ∧ nrmP (gonP (nrmP (gonP P f s)) f (s.2 - s.1, s.2)) = nrmP (gonP P f (1, 1)) := by
  constructor
  · rw [gon_add (t := (-s.1, s.2)) nP hf hs hs]
    have e : s.1 * s.2 + -s.1 * s.2 = 0 := by grind
    rw [e]
    exact gon_zero nP hf (Int.mul_pos hs hs)
  · rw [gon_add (t := (s.2 - s.1, s.2)) nP hf hs hs]
    refine gon_same nP hf (Int.mul_pos hs hs) (by exact Int.zero_lt_one) ?_
    simp only
    grind
/-- a stretch from a point within another one -/
theorem root_cross {g : Fr × Fr} {s c d : Fr} (nP : NmP P) (hf : RedP f) (hg : RedP g) (hs : 0 < s.2) (hc : 0 < c.2) (hd : 0 < d.2) (hcd : d.1 * c.2 - c.1 * d.2 ≠ 0) (hw : cw f g ≠ 0) :
    crossP P (nrmP (gonP P f (1, 1))) (nrmP (gonP (nrmP (gonP P f s)) g c)) (nrmP (gonP (nrmP (gonP P f s)) g d)) = if 0 < -s.1 * (s.2 - s.1) ∨ 0 < c.1 * d.1 then tNone else if -s.1 * (s.2 - s.1) = 0 ∨ c.1 * d.1 = 0 then tTouch (nrmP (gonP P f s)) else tCross (nrmP (gonP P f s)) := by
  obtain ⟨e1, e2⟩ := way_ends nP hf hs
  have S0 := gonP_pos (s := s) nP hf hs
  have nS := nrmP_nm (X := gonP P f s) (by omega)
  have z := gen_cross (a := (-s.1, s.2)) (b := (s.2 - s.1, s.2)) nS hf hg hs hs hc hd (by
    have : 0 < s.2 * s.2 := Int.mul_pos hs hs
    simp only
    have e : (s.2 - s.1) * s.2 - -s.1 * s.2 = s.2 * s.2 := by grind
    omega) hcd hw
  rw [e1, e2] at z
  exact z
end
/-- a way leaning on another one -/
theorem lean_cw {f g : Fr × Fr} {k : Int} (hf : RedP f) (hg : RedP g) (h : cw f g ≠ 0) : cw f (gone g f (k, 1)) ≠ 0 := by
  have one : (1 : Int) ≠ 0 := by decide
  obtain ⟨t1, u1⟩ := tms_ok (p := (k, 1)) (q := f.1) one (red_ne hf.1)
  obtain ⟨t2, u2⟩ := tms_ok (p := (k, 1)) (q := f.2) one (red_ne hf.2)
  obtain ⟨r1, v1⟩ := pls_ok (p := g.1) (q := tms (k, 1) f.1) (red_ne hg.1) (red_ne t1)
  obtain ⟨r2, v2⟩ := pls_ok (p := g.2) (q := tms (k, 1) f.2) (red_ne hg.2) (red_ne t2)
  have w1 := (v1.trans (Q.add (Q.self (red_ne hg.1)) u1)).eq
  have w2 := (v2.trans (Q.add (Q.self (red_ne hg.2)) u2)).eq
  intro z
  refine h ?_
  unfold cw gone at z
  unfold cw
  simp only at z w1 w2
  have n1 := red_ne r1
  have n2 := red_ne r2
  have f1 := red_ne hf.1
  have f2 := red_ne hf.2
  generalize (pls g.1 (tms (k, 1) f.1)).1 = a1 at *
  generalize (pls g.1 (tms (k, 1) f.1)).2 = b1 at *
  generalize (pls g.2 (tms (k, 1) f.2)).1 = a2 at *
  generalize (pls g.2 (tms (k, 1) f.2)).2 = b2 at *
  have e : (f.1.2 * f.2.2 * (b1 * b2)) * (f.1.1 * f.2.2 * (g.2.1 * g.1.2) - f.2.1 * f.1.2 * (g.1.1 * g.2.2)) = 0 := by grind
  rcases Int.mul_eq_zero.mp e with q | q
  · exact absurd q (Int.mul_ne_zero (Int.mul_ne_zero f1 f2) (Int.mul_ne_zero n1 n2))
  · exact q
end Rf


set_option Elab.async false
set_option linter.all false
set_option maxRecDepth 100000
set_option maxHeartbeats 4000000
/-! Rg, part Z: what is shown of meetings. -/
namespace Rf
open PySem PySem.Spec PyProof.Rows L2
def okI (i : Int) : Prop := i.natAbs < 2 ^ 1800
theorem okI_show {i : Int} (h : okI i) : decide (i.natAbs < SHOW) = true := decide_eq_true (Nat.lt_trans h (by decide +kernel))
theorem lin_bd {A B : P3} {e : Nat} (hA : BdP A e) (hB : BdP B e) : BdP (lin A B) (2 * e + 1) :=
  ⟨le_bd (sub_bd (mul_bd hA.2.1 hB.2.2) (mul_bd hA.2.2 hB.2.1)) (by omega), le_bd (sub_bd (mul_bd hA.2.2 hB.1) (mul_bd hA.1 hB.2.2)) (by omega), le_bd (sub_bd (mul_bd hA.1 hB.2.1) (mul_bd hA.2.1 hB.1)) (by omega)⟩
/-- what a meeting may be -/
inductive MT : D → Prop where
  | none : MT tNone
  | along : MT tAlong
  | touch (P : P3) (h : BdP P 1800) : MT (tTouch P)
  | cross (P : P3) (h : BdP P 1800) : MT (tCross P)
theorem ov_mt {A B C E : P3} (hA : BdP A 1800) (hB : BdP B 1800) (hC : BdP C 1800) (hE : BdP E 1800) : MT (ovP A B C E) := by
  have bL : BdP (lowP A B) 1800 := pick (Z := fun P => BdP P 1800) hB hA
  have bF : BdP (lowP C E) 1800 := pick (Z := fun P => BdP P 1800) hE hC
  have bM : BdP (maxP (lowP A B) (lowP C E)) 1800 := pick (Z := fun P => BdP P 1800) bF bL
  unfold ovP
  split
  · exact .touch _ bM
  · split
    · exact .along
    · exact .none
theorem cross_mt {A B C E : P3} (nA : NmP A) (nB : NmP B) (hA : BdP A 400) (hB : BdP B 400) (hC : BdP C 400) (hE : BdP E 400) : MT (crossP A B C E) := by
  unfold crossP
  by_cases h : det C E A = 0 ∧ det C E B = 0
  · rw [if_pos h]; exact ov_mt (hA.mono (by decide)) (hB.mono (by decide)) (hC.mono (by decide)) (hE.mono (by decide))
  rw [if_neg h]
  by_cases h1 : 0 < det C E A * det C E B ∨ 0 < det A B C * det A B E
  · rw [if_pos h1]; exact .none
  rw [if_neg h1]
  split
  · exact .touch _ (hA.mono (by decide))
  · rename_i z1
    split
    · exact .touch _ (hB.mono (by decide))
    · split
      · exact .touch _ (hC.mono (by decide))
      · split
        · exact .touch _ (hE.mono (by decide))
        · have nz : (meetX A B C E).2.2 ≠ 0 := meetX_ne nA nB (fun z => h1 (.inl z)) (.inl z1)
          have bx := lin_bd (lin_bd hA hB) (lin_bd hC hE)
          obtain ⟨_, _, _, k1, k2, k3⟩ := nrm_spec (x := (meetX A B C E).1) (y := (meetX A B C E).2.1) nz
          exact .cross _ ⟨le_bd (Nat.lt_of_le_of_lt k1 bx.1) (by decide), le_bd (Nat.lt_of_le_of_lt k2 bx.2.1) (by decide), le_bd (Nat.lt_of_le_of_lt k3 bx.2.2) (by decide)⟩
theorem py_word {μ : Sto} : pyOk μ tNone = some (.tuple [.str "none"]) ∧ pyOk μ tAlong = some (.tuple [.str "along"]) := by
  constructor
  · have e : toPy μ FU tNone = some (.tuple [.str "none"]) := rfl
    unfold pyOk
    rw [e]
    simp only [Option.bind_some]
    rw [if_pos (by decide +kernel)]
  · have e : toPy μ FU tAlong = some (.tuple [.str "along"]) := rfl
    unfold pyOk
    rw [e]
    simp only [Option.bind_some]
    rw [if_pos (by decide +kernel)]
theorem py_at {μ : Sto} {P : P3} (h : BdP P 1800) : pyOk μ (tTouch P) = some (.tuple [.str "touch", .tuple [.int P.1, .int P.2.1, .int P.2.2]]) ∧ pyOk μ (tCross P) = some (.tuple [.str "cross", .tuple [.int P.1, .int P.2.1, .int P.2.2]]) := by
  have k1 : leafOk (.str "touch") = true := by decide +kernel
  have k2 : leafOk (.str "cross") = true := by decide +kernel
  constructor
  · have e : toPy μ FU (tTouch P) = some (.tuple [.str "touch", .tuple [.int P.1, .int P.2.1, .int P.2.2]]) := rfl
    unfold pyOk
    rw [e]
    show (if okShow _ then _ else _) = _
    rw [if_pos]
    unfold okShow
    simp only [leafOk, leafsOk, okI_show h.1, okI_show h.2.1, okI_show h.2.2] at k1 ⊢
    simp only [k1]
    rfl
  · have e : toPy μ FU (tCross P) = some (.tuple [.str "cross", .tuple [.int P.1, .int P.2.1, .int P.2.2]]) := rfl
    unfold pyOk
    rw [e]
    show (if okShow _ then _ else _) = _
    rw [if_pos]
    unfold okShow
    simp only [leafOk, leafsOk, okI_show h.1, okI_show h.2.1, okI_show h.2.2] at k2 ⊢
    simp only [k2]
    rfl
theorem MT.py {T : D} (h : MT T) : ∃ p : PyData, (∀ μ : Sto, pyOk μ T = some p) ∧ samePy p p = true := by
  cases h with
  | none => exact ⟨_, fun μ => py_word.1, by simp [samePy, samePys]⟩
  | along => exact ⟨_, fun μ => py_word.2, by simp [samePy, samePys]⟩
  | touch P h => exact ⟨_, fun μ => (py_at h).1, by simp [samePy, samePys]⟩
  | cross P h => exact ⟨_, fun μ => (py_at h).2, by simp [samePy, samePys]⟩
theorem fdiv_abs {a g : Int} (ha : 0 ≤ a) (hg : 0 < g) : (a.fdiv g).natAbs ≤ a.natAbs := by
  rw [Int.fdiv_eq_ediv_of_nonneg _ (by omega)]
  have h1 := Int.ediv_nonneg ha (show 0 ≤ g by omega)
  have h2 := Int.ediv_le_self g ha
  omega
theorem told_bd {p q : Fr} {e : Nat} (hp : Red p) (hq : Red q) (bp : BdF p e) (bq : BdF q e) : BdP (told p q) (2 * e) := by
  have h1 := hp.pos
  have h2 := hq.pos
  have hg : (0 : Int) < (Int.gcd p.2 q.2 : Int) := by
    have := Int.gcd_pos_of_ne_zero_right p.2 (show q.2 ≠ 0 by omega)
    omega
  have d1 : (p.2.fdiv (Int.gcd p.2 q.2)).natAbs < 2 ^ e := Nat.lt_of_le_of_lt (fdiv_abs (by omega) hg) bp.2
  have d2 : (q.2.fdiv (Int.gcd p.2 q.2)).natAbs < 2 ^ e := Nat.lt_of_le_of_lt (fdiv_abs (by omega) hg) bq.2
  exact ⟨le_bd (mul_bd bp.1 d2) (by omega), le_bd (mul_bd bq.1 d1) (by omega), le_bd (mul_bd d1 bq.2) (by omega)⟩
theorem nm_bd {a : Fr × Fr} {e k : Nat} (r : RedP a) (b1 : BdF a.1 e) (b2 : BdF a.2 e) (h : 2 * e ≤ k) : BdP (toldP a) k := (told_bd r.1 r.2 b1 b2).mono h
end Rf


set_option Elab.async false
set_option linter.all false
set_option maxRecDepth 100000
set_option maxHeartbeats 4000000
/-! Rl, part A: points led over (moved, turned by quarters, mirrored, made greater), in plain numbers. -/
namespace Rf
inductive W4 where
  | st | tu | mi | ba
  deriving DecidableEq
def W4.x : W4 → Int → Int → Int
  | .st, x, _ => x
  | .tu, _, y => -y
  | .mi, x, _ => -x
  | .ba, x, _ => -x
def W4.y : W4 → Int → Int → Int
  | .st, _, y => y
  | .tu, x, _ => x
  | .mi, _, y => y
  | .ba, _, y => -y
def W4.e : W4 → Int
  | .mi => -1
  | _ => 1
structure Ld where
  w : W4
  a : Int
  u : Int
  v : Int
  d : Int
structure Ld.Ok (l : Ld) : Prop where
  a : 0 < l.a
  d : 0 < l.d
def Ld.m (l : Ld) (P : P3) : P3 := (l.a * l.w.x P.1 P.2.1 + l.u * P.2.2, l.a * l.w.y P.1 P.2.1 + l.v * P.2.2, l.d * P.2.2)
def Ld.p (l : Ld) (P : P3) : P3 := nrmP (l.m P)
section
variable {l : Ld}
theorem ld_det (l : Ld) (A B C : P3) : det (l.m A) (l.m B) (l.m C) = l.w.e * (l.a * l.a * l.d) * det A B C := by
  obtain ⟨w, a, u, v, d⟩ := l
  cases w <;> (unfold det lin Ld.m W4.x W4.y W4.e; simp only; grind)
theorem ld_sub (l : Ld) (k m : Int) (X Y : P3) : l.m (subP k X m Y) = subP k (l.m X) m (l.m Y) := by
  obtain ⟨w, a, u, v, d⟩ := l
  cases w <;> (refine p3_eq ?_ ?_ ?_ <;> (unfold subP Ld.m W4.x W4.y; simp only; grind))
theorem ld_mul (l : Ld) (k : Int) (X : P3) : l.m (mulP k X) = mulP k (l.m X) := by
  obtain ⟨w, a, u, v, d⟩ := l
  cases w <;> (refine p3_eq ?_ ?_ ?_ <;> (unfold mulP Ld.m W4.x W4.y; simp only; grind))
theorem mul_sub (c k m : Int) (X Y : P3) : subP (c * k) X (c * m) Y = mulP c (subP k X m Y) := by
  refine p3_eq ?_ ?_ ?_ <;> (unfold subP mulP; simp only; grind)
theorem ld_meet (l : Ld) (A B C E : P3) : meetX (l.m A) (l.m B) (l.m C) (l.m E) = mulP (l.w.e * (l.a * l.a * l.d)) (l.m (meetX A B C E)) := by
  rw [meetX_ab, ld_det, ld_det, mul_sub, ← ld_sub, ← meetX_ab]
theorem w_e (w : W4) : w.e = 1 ∨ w.e = -1 := by cases w <;> first | exact .inl rfl | exact .inr rfl
theorem Ld.Ok.aad (h : l.Ok) : 0 < l.a * l.a * l.d := Int.mul_pos (Int.mul_pos h.a h.a) h.d
theorem Ld.Ok.ne (h : l.Ok) : l.w.e * (l.a * l.a * l.d) ≠ 0 := by
  have := h.aad
  rcases w_e l.w with z | z <;> rw [z] <;> omega
theorem ld_z (h : l.Ok) {P : P3} (hp : 0 < P.2.2) : 0 < (l.m P).2.2 := Int.mul_pos h.d hp
theorem ld_zne (h : l.Ok) {P : P3} (hp : P.2.2 ≠ 0) : (l.m P).2.2 ≠ 0 := Int.mul_ne_zero (by have := h.d; omega) hp
theorem ld_nm (h : l.Ok) {P : P3} (hp : NmP P) : NmP (l.p P) := nrmP_nm (ld_zne h (nmP_ne hp))
/-- the sides of led points -/
theorem ld_side (h : l.Ok) {A B C : P3} (nA : NmP A) (nB : NmP B) (nC : NmP C) : ∃ k K : Int, 0 < k ∧ 0 < K ∧ l.w.e * (K * det A B C) = k * det (l.p A) (l.p B) (l.p C) := by
  obtain ⟨k, hk, e⟩ := det_nrm (ld_z h nA.pos) (ld_z h nB.pos) (ld_z h nC.pos)
  refine ⟨k, l.a * l.a * l.d, hk, h.aad, ?_⟩
  rw [ld_det] at e
  rw [← Int.mul_assoc]
  exact e
theorem sgn_e {w : W4} {k K x y : Int} (hk : 0 < k) (hK : 0 < K) (e : w.e * (K * x) = k * y) : sgn y = w.e * sgn x := by
  have h1 : sgn (y * k) = sgn y := sgn_mul hk
  have h2 : sgn (x * K) = sgn x := sgn_mul hK
  rw [← h1, ← h2, Int.mul_comm y, ← e, Int.mul_comm x]
  rcases w_e w with z | z <;> rw [z]
  · rw [Int.one_mul, Int.one_mul]
  · rw [Int.neg_mul, Int.one_mul, Int.neg_mul, Int.one_mul, sgn_neg]
theorem ld_sgn (h : l.Ok) {A B C : P3} (nA : NmP A) (nB : NmP B) (nC : NmP C) : sgn (det (l.p A) (l.p B) (l.p C)) = l.w.e * sgn (det A B C) := by
  obtain ⟨k, K, hk, hK, e⟩ := ld_side h nA nB nC
  exact sgn_e hk hK e
theorem ld_zero (h : l.Ok) {A B C : P3} (nA : NmP A) (nB : NmP B) (nC : NmP C) : det (l.p A) (l.p B) (l.p C) = 0 ↔ det A B C = 0 := by
  rw [← sgn0, ← sgn0 (i := det A B C), ld_sgn h nA nB nC]
  rcases w_e l.w with z | z <;> rw [z] <;> omega
theorem ld_prod (h : l.Ok) {A B C E : P3} (nA : NmP A) (nB : NmP B) (nC : NmP C) (nE : NmP E) : 0 < det (l.p A) (l.p B) (l.p C) * det (l.p A) (l.p B) (l.p E) ↔ 0 < det A B C * det A B E := by
  rw [← sgn_pos, ← sgn_pos (i := det A B C), ld_sgn h nA nB nC, ld_sgn h nA nB nE]
  rcases w_e l.w with z | z <;> rw [z]
  · rw [Int.one_mul, Int.one_mul]
  · rw [show -1 * sgn (det A B C) * (-1 * sgn (det A B E)) = sgn (det A B C) * sgn (det A B E) by grind]
/-! ### points alike -/
theorem ld_inj (h : l.Ok) {A B : P3} (nA : NmP A) (nB : NmP B) : l.p A = l.p B ↔ A = B := by
  refine ⟨fun e => ?_, fun e => by rw [e]⟩
  obtain ⟨a1, a2⟩ := nrmP_q (ld_zne h (nmP_ne nA))
  obtain ⟨b1, b2⟩ := nrmP_q (ld_zne h (nmP_ne nB))
  have e' : nrmP (l.m A) = nrmP (l.m B) := e
  rw [e'] at a1 a2
  have c1 := (a1.symm.trans b1).eq
  have c2 := (a2.symm.trans b2).eq
  have hd := h.d
  have ha := h.a
  have zA := nA.pos
  have zB := nB.pos
  have ad : l.a * l.d ≠ 0 := Int.mul_ne_zero (by omega) (by omega)
  have key : A.1 * B.2.2 = B.1 * A.2.2 ∧ A.2.1 * B.2.2 = B.2.1 * A.2.2 := by
    obtain ⟨w, a, u, v, d⟩ := l
    unfold Ld.m at c1 c2
    simp only at c1 c2 ad
    have c1' : a * d * (w.x A.1 A.2.1 * B.2.2) = a * d * (w.x B.1 B.2.1 * A.2.2) := by grind
    have c2' : a * d * (w.y A.1 A.2.1 * B.2.2) = a * d * (w.y B.1 B.2.1 * A.2.2) := by grind
    have d1 := Int.eq_of_mul_eq_mul_left ad c1'
    have d2 := Int.eq_of_mul_eq_mul_left ad c2'
    cases w <;> (unfold W4.x at d1; unfold W4.y at d2; simp only at d1 d2; constructor <;> grind)
  exact nmP_eq nA nB ⟨nmP_ne nA, nmP_ne nB, key.1⟩ ⟨nmP_ne nA, nmP_ne nB, key.2⟩
/-- a multiple of what is told -/
theorem nrmP_any {X : P3} (h : X.2.2 ≠ 0) : ∃ k : Int, k ≠ 0 ∧ X = mulP k (nrmP X) := by
  rcases Int.lt_or_gt_of_ne h with z | z
  · have e2 : mulP (-1) (mulP (-1) X) = X := by refine p3_eq ?_ ?_ ?_ <;> (unfold mulP; simp only; omega)
    obtain ⟨k, hk, e⟩ := nrmP_scale (X := mulP (-1) X) (by show 0 < -1 * X.2.2; omega)
    rw [nrmP_neg h] at e
    refine ⟨-k, by omega, ?_⟩
    have e3 : mulP (-1) (mulP (-1) X) = mulP (-1) (mulP k (nrmP X)) := congrArg (mulP (-1)) e
    rw [e2] at e3
    refine e3.trans ?_
    generalize nrmP X = Y
    refine p3_eq ?_ ?_ ?_ <;> (unfold mulP; simp only; grind)
  · obtain ⟨k, hk, e⟩ := nrmP_scale z
    exact ⟨k, by omega, e⟩
theorem ld_nrm (h : l.Ok) {X : P3} (hX : X.2.2 ≠ 0) : l.p (nrmP X) = nrmP (l.m X) := by
  obtain ⟨k, hk, e⟩ := nrmP_any hX
  have e2 : l.m X = mulP k (l.m (nrmP X)) := by
    rw [← ld_mul, ← e]
  rw [e2, nrmP_mul hk (ld_zne h (nmP_ne (nrmP_nm hX)))]
  rfl
theorem ld_meetP (h : l.Ok) {A B C E : P3} (nA : NmP A) (nB : NmP B) (nC : NmP C) (nE : NmP E) (hz : (meetX A B C E).2.2 ≠ 0) : nrmP (meetX (l.p A) (l.p B) (l.p C) (l.p E)) = l.p (nrmP (meetX A B C E)) := by
  have e := ld_meet l A B C E
  have hz2 : (meetX (l.m A) (l.m B) (l.m C) (l.m E)).2.2 ≠ 0 := by
    rw [e]
    exact Int.mul_ne_zero h.ne (ld_zne h hz)
  show nrmP (meetX (nrmP (l.m A)) (nrmP (l.m B)) (nrmP (l.m C)) (nrmP (l.m E))) = _
  rw [meet_nrm (ld_z h nA.pos) (ld_z h nB.pos) (ld_z h nC.pos) (ld_z h nE.pos) hz2, e, nrmP_mul h.ne (ld_zne h hz), ld_nrm h hz]
/-- points between led points -/
theorem ld_btw (h : l.Ok) {A B : P3} {s : Fr} (nA : NmP A) (nB : NmP B) (hs : s.2 ≠ 0) : btw (l.p A) (l.p B) s = l.p (btw A B s) := by
  have mA := ld_nm h nA
  have mB := ld_nm h nB
  obtain ⟨a1, a2⟩ := nrmP_q (ld_zne h (nmP_ne nA))
  obtain ⟨b1, b2⟩ := nrmP_q (ld_zne h (nmP_ne nB))
  obtain ⟨d1, d2⟩ := btw_q mA mB hs
  obtain ⟨e1, e2⟩ := btw_q nA nB hs
  have nX := btw_ne nA nB hs
  have e0 : btw A B s = nrmP (mixn s.1 s.2 A.1 A.2.2 B.1 B.2.2, mixn s.1 s.2 A.2.1 A.2.2 B.2.1 B.2.2, s.2 * A.2.2 * B.2.2) := rfl
  rw [e0, ld_nrm h nX]
  have m1 := Q.mix (Q.self (n := s.1) hs) a1 b1
  have m2 := Q.mix (Q.self (n := s.1) hs) a2 b2
  have zz : (l.m (mixn s.1 s.2 A.1 A.2.2 B.1 B.2.2, mixn s.1 s.2 A.2.1 A.2.2 B.2.1 B.2.2, s.2 * A.2.2 * B.2.2)).2.2 ≠ 0 := ld_zne h nX
  obtain ⟨f1, f2⟩ := nrmP_q zz
  refine nmP_eq (btw_nm mA mB hs) (nrmP_nm zz) (d1.trans (m1.trans (Q.trans ⟨m1.en, zz, ?_⟩ f1.symm))) (d2.trans (m2.trans (Q.trans ⟨m2.en, zz, ?_⟩ f2.symm)))
  · obtain ⟨w, a, u, v, d⟩ := l
    cases w <;> (unfold Ld.m mixn W4.x; simp only; grind)
  · obtain ⟨w, a, u, v, d⟩ := l
    cases w <;> (unfold Ld.m mixn W4.y; simp only; grind)
end
end Rf


set_option Elab.async false
set_option linter.all false
set_option maxRecDepth 100000
set_option maxHeartbeats 4000000
/-! Rl, part B: the sequence along a line, stretches that meet, led over. -/
namespace Rf
abbrev V2 := Int × Int
def dl (P R : P3) : V2 := (R.1 * P.2.2 - P.1 * R.2.2, R.2.1 * P.2.2 - P.2.1 * R.2.2)
def lexp (v : V2) : Prop := 0 < v.1 ∨ (v.1 = 0 ∧ 0 < v.2)
def ngv (v : V2) : V2 := (-v.1, -v.2)
def mlv (k : Int) (v : V2) : V2 := (k * v.1, k * v.2)
def crv (v w : V2) : Int := v.1 * w.2 - v.2 * w.1
def dtv (v w : V2) : Int := v.1 * w.1 + v.2 * w.2
def W4.v (w : W4) (p : V2) : V2 := (w.x p.1 p.2, w.y p.1 p.2)
theorem ahead_lex {P R : P3} : ahead P R = true ↔ lexp (dl P R) := by
  rw [ahead_iff]
  unfold lexp dl
  simp only
  omega
theorem lexp_not {v : V2} (h : lexp v) : ¬ lexp (ngv v) := by unfold lexp ngv at *; simp only; omega
theorem lexp_or {v : V2} (h : v ≠ (0, 0)) : lexp v ∨ lexp (ngv v) := by
  obtain ⟨a, b⟩ := v
  have h' : a ≠ 0 ∨ b ≠ 0 := by
    by_cases z : a = 0
    · subst z
      right
      intro y
      subst y
      exact h rfl
    · exact .inl z
  unfold lexp ngv
  simp only
  omega
theorem lexp_pos {k : Int} {v : V2} (h : 0 < k) : lexp (mlv k v) ↔ lexp v := by
  obtain ⟨a, b⟩ := v
  unfold lexp mlv
  simp only
  have e1 : 0 < k * a ↔ 0 < a := ⟨fun z => Int.pos_of_mul_pos_right z h |> fun q => q, fun z => Int.mul_pos h z⟩
  have e2 : 0 < k * b ↔ 0 < b := ⟨fun z => Int.pos_of_mul_pos_right z h |> fun q => q, fun z => Int.mul_pos h z⟩
  have e3 : k * a = 0 ↔ a = 0 := ⟨fun z => (Int.mul_eq_zero.mp z).resolve_left (by omega), fun z => by rw [z, Int.mul_zero]⟩
  rw [e1, e2, e3]
theorem lexp_zero {v : V2} : ¬ lexp (mlv 0 v) := by unfold lexp mlv; simp
theorem lexp_mul {m : Int} {v : V2} : lexp (mlv m v) ↔ (0 < m ∧ lexp v) ∨ (m < 0 ∧ lexp (ngv v)) := by
  rcases Int.lt_trichotomy m 0 with z | z | z
  · have e : mlv m v = mlv (-m) (ngv v) := by unfold mlv ngv; simp only [Int.neg_mul_neg]
    rw [e, lexp_pos (by omega)]
    constructor
    · intro h; exact .inr ⟨z, h⟩
    · rintro (⟨h, _⟩ | ⟨_, h⟩)
      · omega
      · exact h
  · subst z
    constructor
    · intro h; exact absurd h lexp_zero
    · rintro (⟨h, _⟩ | ⟨h, _⟩) <;> omega
  · rw [lexp_pos z]
    constructor
    · intro h; exact .inl ⟨z, h⟩
    · rintro (⟨_, h⟩ | ⟨h, _⟩)
      · exact h
      · omega
theorem ngv_ngv (v : V2) : ngv (ngv v) = v := by unfold ngv; simp
theorem ngv_mlv (k : Int) (v : V2) : ngv (mlv k v) = mlv k (ngv v) := by unfold ngv mlv; simp only [Int.mul_neg]
theorem wv_mlv (w : W4) (k : Int) (v : V2) : w.v (mlv k v) = mlv k (w.v v) := by cases w <;> (unfold W4.v W4.x W4.y mlv; simp only [Int.mul_neg])
theorem wv_ngv (w : W4) (v : V2) : w.v (ngv v) = ngv (w.v v) := by cases w <;> (unfold W4.v W4.x W4.y ngv; simp)
theorem wv_ne {w : W4} {v : V2} (h : v ≠ (0, 0)) : w.v v ≠ (0, 0) := by
  obtain ⟨a, b⟩ := v
  intro e
  apply h
  cases w <;> (unfold W4.v W4.x W4.y at e; simp only [Prod.mk.injEq] at e ⊢; omega)
/-- parallel to v: a share of v -/
theorem par_mul {v w : V2} (h : crv v w = 0) : mlv (dtv v v) w = mlv (dtv v w) v := by
  obtain ⟨a, b⟩ := v
  obtain ⟨x, y⟩ := w
  unfold crv at h
  unfold mlv dtv
  simp only at *
  refine Prod.ext ?_ ?_ <;> (simp only; grind)
theorem dtv_pos {v : V2} (h : v ≠ (0, 0)) : 0 < dtv v v := by
  obtain ⟨a, b⟩ := v
  unfold dtv
  simp only
  by_cases z : a = 0
  · have : b ≠ 0 := fun y => h (by rw [z, y])
    have := sq_pos this
    rw [z]
    omega
  · have := sq_pos z
    rcases Int.lt_trichotomy b 0 with y | y | y
    · have := sq_pos (show b ≠ 0 by omega); omega
    · rw [y]; omega
    · have := sq_pos (show b ≠ 0 by omega); omega
theorem flip_or {w : W4} {v : V2} (hv : v ≠ (0, 0)) : (∀ p : V2, crv v p = 0 → (lexp (w.v p) ↔ lexp p)) ∨ (∀ p : V2, crv v p = 0 → (lexp (w.v p) ↔ lexp (ngv p))) := by
  have N := dtv_pos hv
  have key : ∀ p : V2, crv v p = 0 → (lexp (w.v p) ↔ (0 < dtv v p ∧ lexp (w.v v)) ∨ (dtv v p < 0 ∧ lexp (ngv (w.v v)))) ∧ (lexp p ↔ (0 < dtv v p ∧ lexp v) ∨ (dtv v p < 0 ∧ lexp (ngv v))) ∧ (lexp (ngv p) ↔ (0 < dtv v p ∧ lexp (ngv v)) ∨ (dtv v p < 0 ∧ lexp v)) := by
    intro p hp
    have e := par_mul hp
    refine ⟨?_, ?_, ?_⟩
    · rw [← lexp_pos N, ← wv_mlv, e, wv_mlv, lexp_mul]
    · rw [← lexp_pos N, e, lexp_mul]
    · rw [← lexp_pos N, ← ngv_mlv, e, ngv_mlv, lexp_mul, ngv_ngv]
  have hw := wv_ne (w := w) hv
  rcases lexp_or hv with a | a <;> rcases lexp_or hw with b | b
  · left
    intro p hp
    obtain ⟨k1, k2, k3⟩ := key p hp
    have a' := lexp_not a
    have b' := lexp_not b
    rw [k1, k2]
    simp [a, b, a', b']
  · right
    intro p hp
    obtain ⟨k1, k2, k3⟩ := key p hp
    have a' := lexp_not a
    have b' : ¬ lexp (w.v v) := fun z => lexp_not z b
    rw [k1, k3]
    simp [a, b, a', b']
  · right
    intro p hp
    obtain ⟨k1, k2, k3⟩ := key p hp
    have a' : ¬ lexp v := fun z => lexp_not z a
    have b' := lexp_not b
    rw [k1, k3]
    simp [a, b, a', b']
  · left
    intro p hp
    obtain ⟨k1, k2, k3⟩ := key p hp
    have a' : ¬ lexp v := fun z => lexp_not z a
    have b' : ¬ lexp (w.v v) := fun z => lexp_not z b
    rw [k1, k2]
    simp [a, b, a', b']
/-! ### led points, ahead of one another -/
theorem dl_mul (k m : Int) (X Y : P3) : dl (mulP k X) (mulP m Y) = mlv (k * m) (dl X Y) := by
  unfold dl mulP mlv
  refine Prod.ext ?_ ?_ <;> (simp only; grind)
theorem ahead_nrm {X Y : P3} (hX : 0 < X.2.2) (hY : 0 < Y.2.2) : lexp (dl (nrmP X) (nrmP Y)) ↔ lexp (dl X Y) := by
  obtain ⟨k, hk, e1⟩ := nrmP_scale hX
  obtain ⟨m, hm, e2⟩ := nrmP_scale hY
  have e := dl_mul k m (nrmP X) (nrmP Y)
  rw [← e1, ← e2] at e
  rw [e, lexp_pos (Int.mul_pos hk hm)]
theorem dl_ld (l : Ld) (P R : P3) : dl (l.m P) (l.m R) = mlv (l.a * l.d) (l.w.v (dl P R)) := by
  obtain ⟨w, a, u, v, d⟩ := l
  cases w <;> (unfold dl Ld.m W4.v W4.x W4.y mlv; refine Prod.ext ?_ ?_ <;> (simp only; grind))
section
variable {l : Ld}
theorem ahead_ld (h : l.Ok) {P R : P3} (nP : NmP P) (nR : NmP R) : ahead (l.p P) (l.p R) = true ↔ lexp (l.w.v (dl P R)) := by
  rw [ahead_lex]
  show lexp (dl (nrmP (l.m P)) (nrmP (l.m R))) ↔ _
  rw [ahead_nrm (ld_z h nP.pos) (ld_z h nR.pos), dl_ld, lexp_pos (Int.mul_pos h.a h.d)]
theorem dl_sw (P R : P3) : dl R P = ngv (dl P R) := by
  unfold dl ngv
  refine Prod.ext ?_ ?_ <;> (simp only; grind)
/-- four points of a line, led over: all one about another as they were, or all the other way about -/
theorem line_flip (h : l.Ok) {Z : P3 → Prop} {v : V2} (hv : v ≠ (0, 0)) (hZ : ∀ P, Z P → NmP P) (hp : ∀ P R, Z P → Z R → crv v (dl P R) = 0) :
    (∀ P R, Z P → Z R → ahead (l.p P) (l.p R) = ahead P R) ∨ (∀ P R, Z P → Z R → ahead (l.p P) (l.p R) = ahead R P) := by
  rcases flip_or (w := l.w) hv with q | q
  · left
    intro P R zP zR
    have e := (ahead_ld h (hZ P zP) (hZ R zR)).trans ((q _ (hp P R zP zR)).trans ahead_lex.symm)
    cases a : ahead (l.p P) (l.p R) <;> cases b : ahead P R <;> rw [a, b] at e <;> simp at e ⊢
  · right
    intro P R zP zR
    have e : ahead (l.p P) (l.p R) = true ↔ ahead R P = true := (ahead_ld h (hZ P zP) (hZ R zR)).trans ((q _ (hp P R zP zR)).trans (by rw [← dl_sw]; exact ahead_lex.symm))
    cases a : ahead (l.p P) (l.p R) <;> cases b : ahead R P <;> rw [a, b] at e <;> simp at e ⊢
theorem dl_ne {A B : P3} (nA : NmP A) (nB : NmP B) (h : A ≠ B) : dl A B ≠ (0, 0) := by
  intro e
  apply h
  have e1 : B.1 * A.2.2 - A.1 * B.2.2 = 0 := congrArg Prod.fst e
  have e2 : B.2.1 * A.2.2 - A.2.1 * B.2.2 = 0 := congrArg Prod.snd e
  exact nmP_eq nA nB ⟨nmP_ne nA, nmP_ne nB, by omega⟩ ⟨nmP_ne nA, nmP_ne nB, by omega⟩
theorem cr_det (A B C : P3) : crv (dl A B) (dl A C) = A.2.2 * det A B C := by
  unfold crv dl det lin
  simp only
  grind
/-- the points of the line from A to B -/
theorem line_par {A B P R : P3} (nA : NmP A) (hP : det A B P = 0) (hR : det A B R = 0) : crv (dl A B) (dl P R) = 0 := by
  have e1 := cr_det A B P
  have e2 := cr_det A B R
  rw [hP, Int.mul_zero] at e1
  rw [hR, Int.mul_zero] at e2
  have e3 : A.2.2 * crv (dl A B) (dl P R) = P.2.2 * crv (dl A B) (dl A R) - R.2.2 * crv (dl A B) (dl A P) := by
    unfold crv dl
    simp only
    grind
  rw [e1, e2, Int.mul_zero, Int.mul_zero, Int.sub_zero] at e3
  exact (Int.mul_eq_zero.mp e3).resolve_left (nmP_ne nA)
/-- how what is told of two stretches is led over -/
def LdD (l : Ld) (x y : D) : Prop := (x = tNone ∧ y = tNone) ∨ (x = tAlong ∧ y = tAlong) ∨ (∃ P, NmP P ∧ x = tTouch P ∧ y = tTouch (l.p P)) ∨ (∃ P, NmP P ∧ x = tCross P ∧ y = tCross (l.p P))
theorem apick {Z : P3 → Prop} {c : Bool} {P R : P3} (h : Z P) (g : Z R) : Z (if c = true then P else R) := by cases c <;> assumption
theorem ov_ld (h : l.Ok) {A B C E : P3} (nA : NmP A) (nB : NmP B) (nC : NmP C) (nE : NmP E) (hab : A ≠ B) (hC : det A B C = 0) (hE : det A B E = 0) : LdD l (ovP A B C E) (ovP (l.p A) (l.p B) (l.p C) (l.p E)) := by
  have dA : det A B A = 0 := by unfold det lin; simp only; grind
  have dB : det A B B = 0 := by unfold det lin; simp only; grind
  have zn : ∀ P, NmP P ∧ det A B P = 0 → NmP P := fun P z => z.1
  have zp : ∀ P R, (NmP P ∧ det A B P = 0) → (NmP R ∧ det A B R = 0) → crv (dl A B) (dl P R) = 0 := fun P R z y => line_par nA z.2 y.2
  have hi : ∀ P R, (NmP P ∧ det A B P = 0) → (NmP R ∧ det A B R = 0) → (l.p P = l.p R ↔ P = R) := fun P R z y => ld_inj h z.1 y.1
  have sA : NmP A ∧ det A B A = 0 := ⟨nA, dA⟩
  have sB : NmP B ∧ det A B B = 0 := ⟨nB, dB⟩
  have sC : NmP C ∧ det A B C = 0 := ⟨nC, hC⟩
  have sE : NmP E ∧ det A B E = 0 := ⟨nE, hE⟩
  generalize hZ : (fun P => NmP P ∧ det A B P = 0) = Z at *
  have sA : Z A := by rw [← hZ]; exact sA
  have sB : Z B := by rw [← hZ]; exact sB
  have sC : Z C := by rw [← hZ]; exact sC
  have sE : Z E := by rw [← hZ]; exact sE
  have zn : ∀ P, Z P → NmP P := fun P z => by rw [← hZ] at z; exact z.1
  have zp : ∀ P R, Z P → Z R → crv (dl A B) (dl P R) = 0 := fun P R z y => by rw [← hZ] at z y; exact line_par nA z.2 y.2
  have hi : ∀ P R, Z P → Z R → (l.p P = l.p R ↔ P = R) := fun P R z y => ld_inj h (zn P z) (zn R y)
  have fin : ∀ lo hi' lo' : P3, NmP lo → ∀ c c' : Bool, ∀ hi2 : P3, (lo' = hi2 ↔ lo = hi') → (lo = hi' → lo' = l.p lo) → (lo ≠ hi' → c' = c) →
      LdD l (if lo = hi' then tTouch lo else if c = true then tAlong else tNone) (if lo' = hi2 then tTouch lo' else if c' = true then tAlong else tNone) := by
    intro lo hi' lo' nlo c c' hi2 e1 e2 e3
    by_cases z : lo = hi'
    · rw [if_pos z, if_pos (e1.mpr z), e2 z]
      exact .inr (.inr (.inl ⟨lo, nlo, rfl, rfl⟩))
    · rw [if_neg z, if_neg (fun y => z (e1.mp y)), e3 z]
      cases c
      · exact .inl ⟨rfl, rfl⟩
      · exact .inr (.inl ⟨rfl, rfl⟩)
  rcases line_flip h (dl_ne nA nB hab) zn zp with q | q
  · have lw : ∀ P R, Z P → Z R → lowP (l.p P) (l.p R) = l.p (lowP P R) ∧ highP (l.p P) (l.p R) = l.p (highP P R) ∧ maxP (l.p P) (l.p R) = l.p (maxP P R) ∧ minP (l.p P) (l.p R) = l.p (minP P R) := by
      intro P R zP zR
      unfold lowP highP maxP minP
      rw [q _ _ zR zP, q _ _ zP zR]
      cases ahead R P <;> cases ahead P R <;> exact ⟨rfl, rfl, rfl, rfl⟩
    obtain ⟨a1, a2, _, _⟩ := lw A B sA sB
    obtain ⟨c1, c2, _, _⟩ := lw C E sC sE
    have z1 : Z (lowP A B) := apick sB sA
    have z2 : Z (highP A B) := apick sA sB
    have z3 : Z (lowP C E) := apick sE sC
    have z4 : Z (highP C E) := apick sC sE
    obtain ⟨_, _, m1, _⟩ := lw _ _ z1 z3
    obtain ⟨_, _, _, m2⟩ := lw _ _ z2 z4
    have z5 : Z (maxP (lowP A B) (lowP C E)) := apick z3 z1
    have z6 : Z (minP (highP A B) (highP C E)) := apick z4 z2
    unfold ovP
    rw [a1, a2, c1, c2, m1, m2, q _ _ z5 z6]
    exact fin _ _ _ (zn _ z5) _ _ _ (hi _ _ z5 z6) (fun _ => rfl) fun _ => rfl
  · have lw : ∀ P R, Z P → Z R → lowP (l.p P) (l.p R) = l.p (highP P R) ∧ highP (l.p P) (l.p R) = l.p (lowP P R) ∧ maxP (l.p P) (l.p R) = l.p (minP P R) ∧ minP (l.p P) (l.p R) = l.p (maxP P R) := by
      intro P R zP zR
      have t := two_ways (zn P zP) (zn R zR)
      unfold lowP highP maxP minP
      rw [q _ _ zR zP, q _ _ zP zR]
      rcases t with ⟨t1, t2⟩ | ⟨t1, t2⟩ | ⟨t1, t2, t3⟩
      · rw [t1, t2]; exact ⟨rfl, rfl, rfl, rfl⟩
      · rw [t1, t2]; exact ⟨rfl, rfl, rfl, rfl⟩
      · rw [t1, t2, t3]; exact ⟨rfl, rfl, rfl, rfl⟩
    obtain ⟨a1, a2, _, _⟩ := lw A B sA sB
    obtain ⟨c1, c2, _, _⟩ := lw C E sC sE
    have z1 : Z (lowP A B) := apick sB sA
    have z2 : Z (highP A B) := apick sA sB
    have z3 : Z (lowP C E) := apick sE sC
    have z4 : Z (highP C E) := apick sC sE
    obtain ⟨_, _, m1, _⟩ := lw _ _ z2 z4
    obtain ⟨_, _, _, m2⟩ := lw _ _ z1 z3
    have z5 : Z (maxP (lowP A B) (lowP C E)) := apick z3 z1
    have z6 : Z (minP (highP A B) (highP C E)) := apick z4 z2
    unfold ovP
    rw [a1, a2, c1, c2, m1, m2, q _ _ z6 z5]
    refine fin _ _ _ (zn _ z5) _ _ _ ((hi _ _ z6 z5).trans ⟨fun z => z.symm, fun z => z.symm⟩) (fun z => by rw [z]) fun _ => rfl
theorem cross_ld (h : l.Ok) {A B C E : P3} (nA : NmP A) (nB : NmP B) (nC : NmP C) (nE : NmP E) (hab : A ≠ B) (hce : C ≠ E) : LdD l (crossP A B C E) (crossP (l.p A) (l.p B) (l.p C) (l.p E)) := by
  have mA := ld_nm h nA
  have mB := ld_nm h nB
  have mC := ld_nm h nC
  have mE := ld_nm h nE
  have z1 := ld_zero h nC nE nA
  have z2 := ld_zero h nC nE nB
  have z3 := ld_zero h nA nB nC
  have z4 := ld_zero h nA nB nE
  by_cases z : det C E A = 0 ∧ det C E B = 0
  · have z' : det (l.p C) (l.p E) (l.p A) = 0 ∧ det (l.p C) (l.p E) (l.p B) = 0 := ⟨z1.mpr z.1, z2.mpr z.2⟩
    obtain ⟨c1, c2⟩ := col_sw nC nE hce z
    unfold crossP
    rw [if_pos z, if_pos z']
    exact ov_ld h nA nB nC nE hab c1 c2
  · have z' : ¬ (det (l.p C) (l.p E) (l.p A) = 0 ∧ det (l.p C) (l.p E) (l.p B) = 0) := fun y => z ⟨z1.mp y.1, z2.mp y.2⟩
    rw [cross_cr nA nB nC nE z, cross_cr mA mB mC mE z']
    unfold crP
    simp only [z1, z2, z3, z4, ld_prod h nC nE nA nB, ld_prod h nA nB nC nE]
    by_cases q : 0 < det C E A * det C E B ∨ 0 < det A B C * det A B E
    · rw [if_pos q, if_pos q]
      exact .inl ⟨rfl, rfl⟩
    · rw [if_neg q, if_neg q]
      have nz : (meetX A B C E).2.2 ≠ 0 := meetX_ne nA nB (fun w => q (.inl w)) (by
        by_cases y : det C E A = 0
        · exact .inr fun w => z ⟨y, w⟩
        · exact .inl y)
      rw [ld_meetP h nA nB nC nE nz]
      split
      · exact .inr (.inr (.inl ⟨_, nrmP_nm nz, rfl, rfl⟩))
      · exact .inr (.inr (.inr ⟨_, nrmP_nm nz, rfl, rfl⟩))
end
end Rf


set_option Elab.async false
set_option linter.all false
set_option maxRecDepth 100000
set_option maxHeartbeats 4000000
/-! Rl, part C: closed lines about a spot, in plain numbers. -/
namespace Rf
/-! ### a spot on a stretch -/
def onB (A B S : P3) : Bool := decide (det A B S = 0) && !(ahead S (lowP A B) || ahead (highP A B) S)
def ovrB (A B S : P3) : Bool :=
  if decide (A.2.1 * S.2.2 ≤ S.2.1 * A.2.2) = decide (B.2.1 * S.2.2 ≤ S.2.1 * B.2.2) then false
  else if decide (A.2.1 * S.2.2 ≤ S.2.1 * A.2.2) then decide (0 < det A B S) else decide (0 < det B A S)
def onV (a b : V2) : Bool := decide (crv a b = 0) && decide (dtv a b ≤ 0)
def ov2 (a b : V2) : Bool :=
  if decide (a.2 ≤ 0) = decide (b.2 ≤ 0) then false
  else if decide (a.2 ≤ 0) then decide (0 < crv a b) else decide (crv a b < 0)
theorem adv_lex {v w : V2} (h : lexp v) (g : lexp w ∨ w = (0, 0)) : lexp (v.1 + w.1, v.2 + w.2) := by
  obtain ⟨a, b⟩ := v
  obtain ⟨x, y⟩ := w
  rcases g with g | g
  · unfold lexp at *; simp only at *; omega
  · have e1 : x = 0 := congrArg Prod.fst g
    have e2 : y = 0 := congrArg Prod.snd g
    unfold lexp at *; simp only at *; omega
theorem dl_add (S A B : P3) : mlv A.2.2 (dl S B) = ((mlv B.2.2 (dl S A)).1 + (mlv S.2.2 (dl A B)).1, (mlv B.2.2 (dl S A)).2 + (mlv S.2.2 (dl A B)).2) := by
  unfold dl mlv
  refine Prod.ext ?_ ?_ <;> (simp only; grind)
theorem mlv_zero {k : Int} {v : V2} (hk : k ≠ 0) : mlv k v = (0, 0) ↔ v = (0, 0) := by
  obtain ⟨a, b⟩ := v
  unfold mlv
  simp only [Prod.mk.injEq]
  constructor
  · rintro ⟨h1, h2⟩
    exact ⟨(Int.mul_eq_zero.mp h1).resolve_left hk, (Int.mul_eq_zero.mp h2).resolve_left hk⟩
  · rintro ⟨h1, h2⟩
    rw [h1, h2, Int.mul_zero]
    exact ⟨rfl, rfl⟩
/-- S ahead of A, A not behind B: S ahead of B -/
theorem ahead_tr {S A B : P3} (hS : 0 < S.2.2) (hA : 0 < A.2.2) (hB : 0 < B.2.2) (h : lexp (dl S A)) (g : ¬ lexp (dl B A)) : lexp (dl S B) := by
  rw [← lexp_pos hA, dl_add]
  refine adv_lex ((lexp_pos hB).mpr h) ?_
  rw [lexp_pos hS, mlv_zero (by omega)]
  by_cases z : dl A B = (0, 0)
  · exact .inr z
  · rcases lexp_or z with y | y
    · exact .inl y
    · rw [← dl_sw] at y
      exact absurd y g
theorem low_iff {S A B : P3} (hS : 0 < S.2.2) (hA : 0 < A.2.2) (hB : 0 < B.2.2) : ahead S (lowP A B) = true ↔ lexp (dl S A) ∧ lexp (dl S B) := by
  unfold lowP
  by_cases z : ahead B A = true
  · rw [if_pos z, ahead_lex]
    refine ⟨fun h => ⟨ahead_tr hS hB hA h fun y => ?_, h⟩, fun h => h.2⟩
    rw [ahead_lex, dl_sw] at z
    exact lexp_not y z
  · rw [if_neg z, ahead_lex]
    rw [ahead_lex] at z
    exact ⟨fun h => ⟨h, ahead_tr hS hA hB h z⟩, fun h => h.1⟩
theorem ahead_tr2 {S A B : P3} (hS : 0 < S.2.2) (hA : 0 < A.2.2) (hB : 0 < B.2.2) (h : lexp (dl A S)) (g : ¬ lexp (dl A B)) : lexp (dl B S) := by
  rw [← lexp_pos hA, dl_add]
  by_cases z : dl B A = (0, 0)
  · have e : mlv S.2.2 (dl B A) = (0, 0) := (mlv_zero (by omega)).mpr z
    rw [e]
    have q := (lexp_pos hB).mpr h
    simpa using q
  · have y : lexp (dl B A) := by
      rcases lexp_or z with y | y
      · exact y
      · rw [← dl_sw] at y; exact absurd y g
    have q := adv_lex ((lexp_pos hS).mpr y) (.inl ((lexp_pos hB).mpr h))
    exact q
theorem high_iff {S A B : P3} (hS : 0 < S.2.2) (hA : 0 < A.2.2) (hB : 0 < B.2.2) : ahead (highP A B) S = true ↔ lexp (dl A S) ∧ lexp (dl B S) := by
  unfold highP
  by_cases z : ahead B A = true
  · rw [if_pos z, ahead_lex]
    rw [ahead_lex] at z
    refine ⟨fun h => ⟨h, ahead_tr2 hS hA hB h fun y => ?_⟩, fun h => h.1⟩
    rw [dl_sw] at z
    exact lexp_not y z
  · rw [if_neg z, ahead_lex]
    rw [ahead_lex] at z
    exact ⟨fun h => ⟨ahead_tr2 hS hB hA h z, h⟩, fun h => h.2⟩
theorem det_cr (A B S : P3) : crv (dl S A) (dl S B) = S.2.2 * det A B S := by rw [cr_det, show det S A B = det A B S from K6]
theorem det_zero {A B S : P3} (hS : 0 < S.2.2) : det A B S = 0 ↔ crv (dl S A) (dl S B) = 0 := by
  rw [det_cr]
  exact ⟨fun h => by rw [h, Int.mul_zero], fun h => (Int.mul_eq_zero.mp h).resolve_left (by omega)⟩
theorem det_posi {A B S : P3} (hS : 0 < S.2.2) : 0 < det A B S ↔ 0 < crv (dl S A) (dl S B) := by
  rw [det_cr]
  exact ⟨fun h => Int.mul_pos hS h, fun h => Int.pos_of_mul_pos_right h hS |> fun q => q⟩
theorem crv_sw (a b : V2) : crv b a = -crv a b := by unfold crv; grind
theorem onB_eq {A B S : P3} (hS : 0 < S.2.2) (hA : 0 < A.2.2) (hB : 0 < B.2.2) : onB A B S = onV (dl S A) (dl S B) := by
  have e1 := low_iff hS hA hB
  have e2 := high_iff hS hA hB
  rw [dl_sw S A, dl_sw S B] at e2
  have e3 := det_zero (A := A) (B := B) hS
  have key : onB A B S = true ↔ onV (dl S A) (dl S B) = true := by
    unfold onB onV
    rw [Bool.and_eq_true, Bool.and_eq_true, decide_eq_true_eq, decide_eq_true_eq, decide_eq_true_eq, e3]
    refine and_congr_right fun hc => ?_
    have e4 : (!(ahead S (lowP A B) || ahead (highP A B) S)) = true ↔ ¬ (ahead S (lowP A B) = true ∨ ahead (highP A B) S = true) := by
      cases ahead S (lowP A B) <;> cases ahead (highP A B) S <;> simp
    rw [e4, e1, e2]
    by_cases z : dl S A = (0, 0)
    · rw [z]
      have n1 : ¬ lexp ((0, 0) : V2) := by unfold lexp; simp
      have n2 : ¬ lexp (ngv ((0, 0) : V2)) := by unfold lexp ngv; simp
      have n3 : dtv ((0, 0) : V2) (dl S B) = 0 := by unfold dtv; simp
      rw [n3]
      exact ⟨fun _ => Int.le_refl 0, fun _ h => h.elim (fun q => n1 q.1) fun q => n2 q.1⟩
    · have N := dtv_pos z
      have e := par_mul hc
      have l1 : lexp (dl S B) ↔ (0 < dtv (dl S A) (dl S B) ∧ lexp (dl S A)) ∨ (dtv (dl S A) (dl S B) < 0 ∧ lexp (ngv (dl S A))) := by rw [← lexp_pos N, e, lexp_mul]
      have l2 : lexp (ngv (dl S B)) ↔ (0 < dtv (dl S A) (dl S B) ∧ lexp (ngv (dl S A))) ∨ (dtv (dl S A) (dl S B) < 0 ∧ lexp (dl S A)) := by rw [← lexp_pos N, ← ngv_mlv, e, ngv_mlv, lexp_mul, ngv_ngv]
      rw [l1, l2]
      have t := lexp_or z
      have t2 : ¬ (lexp (dl S A) ∧ lexp (ngv (dl S A))) := fun q => lexp_not q.1 q.2
      generalize lexp (dl S A) = p at *
      generalize lexp (ngv (dl S A)) = r at *
      generalize dtv (dl S A) (dl S B) = m at *
      constructor
      · intro h
        rcases Int.lt_or_le 0 m with y | y
        · exfalso
          apply h
          rcases t with t | t
          · exact .inl ⟨t, .inl ⟨y, t⟩⟩
          · exact .inr ⟨t, .inl ⟨y, t⟩⟩
        · exact y
      · intro y h
        rcases h with ⟨h1, h2⟩ | ⟨h1, h2⟩
        · rcases h2 with ⟨h2, _⟩ | ⟨_, h2⟩
          · omega
          · exact t2 ⟨h1, h2⟩
        · rcases h2 with ⟨h2, _⟩ | ⟨_, h2⟩
          · omega
          · exact t2 ⟨h2, h1⟩
  cases x : onB A B S <;> cases y : onV (dl S A) (dl S B) <;> rw [x, y] at key <;> simp at key ⊢
theorem ovrB_eq {A B S : P3} (hS : 0 < S.2.2) : ovrB A B S = ov2 (dl S A) (dl S B) := by
  have b : ∀ P : P3, decide (P.2.1 * S.2.2 ≤ S.2.1 * P.2.2) = decide ((dl S P).2 ≤ 0) := fun P => by
    rw [decide_eq_decide]
    unfold dl
    simp only
    omega
  unfold ovrB ov2
  rw [b, b]
  have e1 : decide (0 < det A B S) = decide (0 < crv (dl S A) (dl S B)) := decide_eq_decide.mpr (det_posi hS)
  have e2 : decide (0 < det B A S) = decide (crv (dl S A) (dl S B) < 0) := by
    rw [decide_eq_decide, det_posi hS, crv_sw (dl S A) (dl S B)]
    omega
  rw [e1, e2]
/-! ### by vectors -/
theorem onV_scale {a b : V2} {k m : Int} (hk : 0 < k) (hm : 0 < m) : onV (mlv k a) (mlv m b) = onV a b := by
  have e1 : crv (mlv k a) (mlv m b) = k * m * crv a b := by unfold crv mlv; simp only; grind
  have e2 : dtv (mlv k a) (mlv m b) = k * m * dtv a b := by unfold dtv mlv; simp only; grind
  have hkm := Int.mul_pos hk hm
  unfold onV
  rw [e1, e2]
  congr 1
  · rw [decide_eq_decide]
    exact ⟨fun h => (Int.mul_eq_zero.mp h).resolve_left (by omega), fun h => by rw [h, Int.mul_zero]⟩
  · rw [decide_eq_decide]
    constructor
    · intro h
      rcases Int.lt_or_le 0 (dtv a b) with z | z
      · have := Int.mul_pos hkm z; omega
      · exact z
    · intro h
      exact Int.mul_nonpos_of_nonneg_of_nonpos (by omega) h
theorem ov2_scale {a b : V2} {k m : Int} (hk : 0 < k) (hm : 0 < m) : ov2 (mlv k a) (mlv m b) = ov2 a b := by
  have e1 : crv (mlv k a) (mlv m b) = k * m * crv a b := by unfold crv mlv; simp only; grind
  have hkm := Int.mul_pos hk hm
  have p : ∀ {k x : Int}, 0 < k → decide (k * x ≤ 0) = decide (x ≤ 0) := fun {k x} hk => by
    rw [decide_eq_decide]
    constructor
    · intro h
      rcases Int.lt_or_le 0 x with z | z
      · have := Int.mul_pos hk z; omega
      · exact z
    · intro h
      exact Int.mul_nonpos_of_nonneg_of_nonpos (by omega) h
  have p1 : decide (0 < k * m * crv a b) = decide (0 < crv a b) := by
    rw [decide_eq_decide]
    exact ⟨fun h => Int.pos_of_mul_pos_right h hkm, fun h => Int.mul_pos hkm h⟩
  have p2 : decide (k * m * crv a b < 0) = decide (crv a b < 0) := by
    rw [decide_eq_decide]
    constructor
    · intro h
      rcases Int.lt_or_le (crv a b) 0 with z | z
      · exact z
      · have := Int.mul_nonneg (Int.le_of_lt hkm) z; omega
    · intro h
      exact Int.mul_neg_of_pos_of_neg hkm h
  unfold ov2
  rw [e1, p1, p2, show (mlv k a).2 = k * a.2 from rfl, show (mlv m b).2 = m * b.2 from rfl, p hk, p hm]
theorem onV_w (w : W4) (a b : V2) : onV (w.v a) (w.v b) = onV a b := by
  obtain ⟨x, y⟩ := a
  obtain ⟨u, v⟩ := b
  have e1 : crv (w.v (x, y)) (w.v (u, v)) = w.e * crv (x, y) (u, v) := by cases w <;> (unfold crv W4.v W4.x W4.y W4.e; simp only <;> grind)
  have e2 : dtv (w.v (x, y)) (w.v (u, v)) = dtv (x, y) (u, v) := by cases w <;> (unfold dtv W4.v W4.x W4.y; simp only <;> grind)
  unfold onV
  rw [e1, e2]
  congr 1
  rw [decide_eq_decide]
  rcases w_e w with z | z <;> rw [z] <;> omega
/-- the half line of a linear function -/
def ovF (fa fb c : Int) : Bool := if decide (fa ≤ 0) = decide (fb ≤ 0) then false else if decide (fa ≤ 0) then decide (0 < c) else decide (c < 0)
/-- two half lines: unlike just over what lies in the corner between them -/
theorem ov_cone {fa fb ga gb c k : Int} (hk : 0 < k) (e : fa * gb - ga * fb = k * c) (h1 : decide (fa ≤ 0) ≠ decide (fb ≤ 0) → c ≠ 0) (h2 : decide (ga ≤ 0) ≠ decide (gb ≤ 0) → c ≠ 0) :
    (ovF fa fb c != ovF ga gb c) = ((decide (0 < fa) && decide (ga ≤ 0)) != (decide (0 < fb) && decide (gb ≤ 0))) := by
  have cs : 0 < c ↔ 0 < fa * gb - ga * fb := by
    rw [e]; exact ⟨fun h => Int.mul_pos hk h, fun h => Int.pos_of_mul_pos_right h hk |> fun q => q⟩
  have cn : c < 0 ↔ fa * gb - ga * fb < 0 := by
    rw [e]
    constructor
    · intro h; exact Int.mul_neg_of_pos_of_neg hk h
    · intro h
      rcases Int.lt_or_le c 0 with z | z
      · exact z
      · have := Int.mul_nonneg (Int.le_of_lt hk) z; omega
  have pr : ∀ x y : Int, (0 < x ∧ 0 < y ∧ 0 < x * y) ∨ (0 < x ∧ y ≤ 0 ∧ x * y ≤ 0) ∨ (x ≤ 0 ∧ 0 < y ∧ x * y ≤ 0) ∨ (x ≤ 0 ∧ y ≤ 0 ∧ 0 ≤ x * y) := by
    intro x y
    rcases Int.lt_or_le 0 x with h | h <;> rcases Int.lt_or_le 0 y with g | g
    · exact .inl ⟨h, g, Int.mul_pos h g⟩
    · exact .inr (.inl ⟨h, g, Int.mul_nonpos_of_nonneg_of_nonpos (Int.le_of_lt h) g⟩)
    · exact .inr (.inr (.inl ⟨h, g, Int.mul_nonpos_of_nonpos_of_nonneg h (Int.le_of_lt g)⟩))
    · exact .inr (.inr (.inr ⟨h, g, Int.mul_nonneg_of_nonpos_of_nonpos h g⟩))
  have s1 := pr fa gb
  have s2 := pr ga fb
  generalize fa * gb = X at *
  generalize ga * fb = Y at *
  have h1' : (0 < fa ∧ ¬ 0 < fb) ∨ (¬ 0 < fa ∧ 0 < fb) → c ≠ 0 := fun z => h1 (by
    intro y
    rw [decide_eq_decide] at y
    omega)
  have h2' : (0 < ga ∧ ¬ 0 < gb) ∨ (¬ 0 < ga ∧ 0 < gb) → c ≠ 0 := fun z => h2 (by
    intro y
    rw [decide_eq_decide] at y
    omega)
  clear h1 h2 pr e
  unfold ovF
  have dd : ∀ x : Int, (0 < x ∧ decide (x ≤ 0) = false ∧ decide (0 < x) = true) ∨ (x ≤ 0 ∧ decide (x ≤ 0) = true ∧ decide (0 < x) = false) := fun x => by
    rcases Int.lt_or_le 0 x with h | h
    · exact .inl ⟨h, decide_eq_false (by omega), decide_eq_true h⟩
    · exact .inr ⟨h, decide_eq_true h, decide_eq_false (by omega)⟩
  have dc : (0 < c ∧ decide (0 < c) = true ∧ decide (c < 0) = false) ∨ (c < 0 ∧ decide (0 < c) = false ∧ decide (c < 0) = true) ∨ (c = 0 ∧ decide (0 < c) = false ∧ decide (c < 0) = false) := by
    rcases Int.lt_trichotomy c 0 with h | h | h
    · exact .inr (.inl ⟨h, decide_eq_false (by omega), decide_eq_true h⟩)
    · exact .inr (.inr ⟨h, decide_eq_false (by omega), decide_eq_false (by omega)⟩)
    · exact .inl ⟨h, decide_eq_true h, decide_eq_false (by omega)⟩
  rcases dd fa with ⟨a1, a2, a3⟩ | ⟨a1, a2, a3⟩ <;> rcases dd fb with ⟨b1, b2, b3⟩ | ⟨b1, b2, b3⟩ <;> rcases dd ga with ⟨c1, c2, c3⟩ | ⟨c1, c2, c3⟩ <;> rcases dd gb with ⟨d1, d2, d3⟩ | ⟨d1, d2, d3⟩ <;> rcases dc with ⟨e1, e2, e3⟩ | ⟨e1, e2, e3⟩ | ⟨e1, e2, e3⟩
  all_goals first
    | (rw [a2, a3, b2, b3, c2, d2, e2, e3]; rfl)
    | (exfalso; omega)
end Rf


set_option Elab.async false
set_option linter.all false
set_option maxRecDepth 100000
set_option maxHeartbeats 4000000
/-! Rl, part D: closed lines: how often a half line goes through them, odd or even. -/
namespace Rf
/-! ### neighbours of a closed line -/
def cpr {α : Type} (f : α) : α → List α → List (α × α)
  | a, [] => [(a, f)]
  | a, b :: r => (a, b) :: cpr f b r
def prs {α : Type} : List α → List (α × α)
  | [] => []
  | a :: r => cpr a a r
theorem zip_cpr {α : Type} (f : α) : ∀ (a : α) (r : List α), (a :: r).zip (r ++ [f]) = cpr f a r
  | a, [] => rfl
  | a, b :: r => by
    show (a, b) :: (b :: r).zip (r ++ [f]) = _
    rw [zip_cpr f b r]
    rfl
theorem zip_prs {α : Type} : ∀ l : List α, l.zip (l.tail ++ l.take 1) = prs l
  | [] => rfl
  | a :: r => zip_cpr a a r
theorem cpr_map {α β : Type} (g : α → β) (f : α) : ∀ (a : α) (r : List α), cpr (g f) (g a) (r.map g) = (cpr f a r).map (fun p => (g p.1, g p.2))
  | a, [] => rfl
  | a, b :: r => by
    show (g a, g b) :: cpr (g f) (g b) (r.map g) = _
    rw [cpr_map g f b r]
    rfl
theorem prs_map {α β : Type} (g : α → β) : ∀ l : List α, prs (l.map g) = (prs l).map (fun p => (g p.1, g p.2))
  | [] => rfl
  | a :: r => cpr_map g a a r
theorem cpr_mem {α : Type} {f : α} {p : α × α} : ∀ {a : α} {r : List α}, p ∈ cpr f a r → (p.1 ∈ a :: r) ∧ (p.2 ∈ r ∨ p.2 = f)
  | a, [], h => by
    have e : p = (a, f) := List.mem_singleton.mp h
    rw [e]
    exact ⟨List.mem_cons_self, .inr rfl⟩
  | a, b :: r, h => by
    rcases List.mem_cons.mp h with e | e
    · rw [e]
      exact ⟨List.mem_cons_self, .inl List.mem_cons_self⟩
    · obtain ⟨h1, h2⟩ := cpr_mem e
      exact ⟨List.mem_cons_of_mem _ h1, h2.imp (fun z => List.mem_cons_of_mem _ z) id⟩
theorem prs_mem {α : Type} {l : List α} {p : α × α} (h : p ∈ prs l) : p.1 ∈ l ∧ p.2 ∈ l := by
  cases l with
  | nil => cases h
  | cons a r =>
    obtain ⟨h1, h2⟩ := cpr_mem h
    exact ⟨h1, h2.elim (fun z => List.mem_cons_of_mem _ z) fun z => by rw [z]; exact List.mem_cons_self⟩
/-! ### odd or even -/
/-- whether an odd number of them do -/
def oddB {α : Type} (f : α → Bool) : List α → Bool
  | [] => false
  | a :: r => f a != oddB f r
theorem odd_count {α : Type} (f : α → Bool) : ∀ l : List α, oddB f l = decide ((l.filter f).length % 2 = 1)
  | [] => rfl
  | a :: r => by
    show (f a != oddB f r) = _
    rw [odd_count f r, List.filter_cons]
    cases f a with
    | true =>
      rw [if_pos rfl, List.length_cons]
      by_cases h : (r.filter f).length % 2 = 1
      · rw [decide_eq_true h, decide_eq_false (by omega)]; rfl
      · rw [decide_eq_false h, decide_eq_true (by omega)]; rfl
    | false =>
      rw [if_neg (by decide)]
      cases decide ((r.filter f).length % 2 = 1) <;> rfl
theorem odd_xor {α : Type} (f g : α → Bool) : ∀ l : List α, oddB (fun a => f a != g a) l = (oddB f l != oddB g l)
  | [] => rfl
  | a :: r => by
    show ((f a != g a) != oddB (fun a => f a != g a) r) = ((f a != oddB f r) != (g a != oddB g r))
    rw [odd_xor f g r]
    cases f a <;> cases g a <;> cases oddB f r <;> cases oddB g r <;> rfl
theorem odd_congr {α : Type} {f g : α → Bool} : ∀ {l : List α}, (∀ a ∈ l, f a = g a) → oddB f l = oddB g l
  | [], _ => rfl
  | a :: r, h => by
    show (f a != oddB f r) = (g a != oddB g r)
    rw [h a List.mem_cons_self, odd_congr fun b hb => h b (List.mem_cons_of_mem _ hb)]
theorem odd_app {α : Type} (f : α → Bool) : ∀ l m : List α, oddB f (l ++ m) = (oddB f l != oddB f m)
  | [], m => by show oddB f m = (false != oddB f m); cases oddB f m <;> rfl
  | a :: r, m => by
    show (f a != oddB f (r ++ m)) = ((f a != oddB f r) != oddB f m)
    rw [odd_app f r m]
    cases f a <;> cases oddB f r <;> cases oddB f m <;> rfl
theorem odd_map {α β : Type} (f : β → Bool) (g : α → β) : ∀ l : List α, oddB f (l.map g) = oddB (fun a => f (g a)) l
  | [] => rfl
  | a :: r => by
    show (f (g a) != oddB f (r.map g)) = _
    rw [odd_map f g r]
    rfl
/-- what is unlike at both ends is met an even number of times round -/
theorem cpr_even {α : Type} (C : α → Bool) (f : α) : ∀ (a : α) (r : List α), oddB (fun p => C p.1 != C p.2) (cpr f a r) = (C a != C f)
  | a, [] => by show ((C a != C f) != false) = _; cases C a <;> cases C f <;> rfl
  | a, b :: r => by
    show ((C a != C b) != oddB (fun p => C p.1 != C p.2) (cpr f b r)) = _
    rw [cpr_even C f b r]
    cases C a <;> cases C b <;> cases C f <;> rfl
theorem prs_even {α : Type} (C : α → Bool) : ∀ l : List α, oddB (fun p => C p.1 != C p.2) (prs l) = false
  | [] => rfl
  | a :: r => by
    show oddB _ (cpr a a r) = false
    rw [cpr_even]
    cases C a <;> rfl
/-- two half lines that differ by ends alone -/
theorem odd_same {α : Type} {f g : α × α → Bool} (C : α → Bool) {l : List α} (h : ∀ p ∈ prs l, (f p != g p) = (C p.1 != C p.2)) : oddB f (prs l) = oddB g (prs l) := by
  have e := odd_xor f g (prs l)
  rw [odd_congr h, prs_even] at e
  cases x : oddB f (prs l) <;> cases y : oddB g (prs l) <;> rw [x, y] at e <;> simp at e ⊢
/-! ### the half line turned, mirrored -/
/-- a straddled line of numbers: not on one line with the spot -/
theorem off_c {a b : V2} {g : V2 → Int} (g0 : ∀ k v, g (mlv k v) = k * g v) (h : onV a b = false) (hs : decide (g a ≤ 0) ≠ decide (g b ≤ 0)) : crv a b ≠ 0 := by
  intro hc
  have hd : ¬ dtv a b ≤ 0 := fun z => by
    unfold onV at h
    rw [decide_eq_true hc, decide_eq_true z] at h
    cases h
  by_cases z : a = (0, 0)
  · rw [z] at hd
    exact hd (by unfold dtv; simp)
  · have N := dtv_pos z
    have e := congrArg g (par_mul hc)
    rw [g0, g0] at e
    apply hs
    rw [decide_eq_decide]
    have m : 0 < dtv a b := by omega
    generalize g a = x at *
    generalize g b = y at *
    generalize dtv a a = n at *
    generalize dtv a b = k at *
    constructor
    · intro hx
      have h1 := Int.mul_nonpos_of_nonneg_of_nonpos (Int.le_of_lt m) hx
      rcases Int.lt_or_le 0 y with q | q
      · have := Int.mul_pos N q; omega
      · exact q
    · intro hy
      have h1 := Int.mul_nonpos_of_nonneg_of_nonpos (Int.le_of_lt N) hy
      rcases Int.lt_or_le 0 x with q | q
      · have := Int.mul_pos m q; omega
      · exact q
theorem ov2_F (a b : V2) : ov2 a b = ovF a.2 b.2 (crv a b) := rfl
/-- over two vectors by a linear function -/
theorem ov_lin {f g : V2 → Int} {k : Int} (hk : 0 < k) (f0 : ∀ k v, f (mlv k v) = k * f v) (g0 : ∀ k v, g (mlv k v) = k * g v) (e : ∀ a b, f a * g b - g a * f b = k * crv a b) {l : List V2} (h : ∀ p ∈ prs l, onV p.1 p.2 = false) :
    oddB (fun p => ovF (f p.1) (f p.2) (crv p.1 p.2)) (prs l) = oddB (fun p => ovF (g p.1) (g p.2) (crv p.1 p.2)) (prs l) :=
  odd_same (fun v => decide (0 < f v) && decide (g v ≤ 0)) fun p hp => ov_cone hk (e _ _) (off_c f0 (h p hp)) (off_c g0 (h p hp))
def oddV (l : List V2) : Bool := oddB (fun p => ov2 p.1 p.2) (prs l)
def anyV (l : List V2) : Bool := (prs l).any fun p => onV p.1 p.2
theorem anyV_off {l : List V2} (h : anyV l = false) : ∀ p ∈ prs l, onV p.1 p.2 = false := by
  intro p hp
  cases e : onV p.1 p.2 with
  | false => rfl
  | true =>
    have : anyV l = true := List.any_eq_true.mpr ⟨p, hp, e⟩
    rw [h] at this
    cases this
theorem oddV_tu {l : List V2} (h : anyV l = false) : oddV (l.map W4.tu.v) = oddV l := by
  unfold oddV
  rw [prs_map, odd_map]
  have e1 : (fun a : V2 × V2 => ov2 (W4.tu.v a.1) (W4.tu.v a.2)) = fun p => ovF p.1.1 p.2.1 (crv p.1 p.2) := by
    funext p
    have ec : crv (W4.tu.v p.1) (W4.tu.v p.2) = crv p.1 p.2 := by unfold crv W4.v W4.x W4.y; simp only; grind
    rw [ov2_F, ec]
    rfl
  rw [e1]
  exact ov_lin (f := fun v => v.1) (g := fun v => v.2) (k := 1) (by decide) (fun _ _ => rfl) (fun _ _ => rfl) (fun a b => by unfold crv; grind) (anyV_off h)
theorem oddV_mi {l : List V2} (h : anyV l = false) : oddV (l.map W4.mi.v) = oddV l := by
  unfold oddV
  rw [prs_map, odd_map]
  refine odd_same (fun v => decide (v.2 ≤ 0)) fun p hp => ?_
  have hc := off_c (g := fun v => v.2) (fun _ _ => rfl) (anyV_off h p hp)
  have ec : crv (W4.mi.v p.1) (W4.mi.v p.2) = -crv p.1 p.2 := by unfold crv W4.v W4.x W4.y; simp only; grind
  have ea : ∀ v : V2, (W4.mi.v v).2 = v.2 := fun _ => rfl
  show (ov2 (W4.mi.v p.1) (W4.mi.v p.2) != ov2 p.1 p.2) = _
  unfold ov2
  rw [ec, ea, ea]
  by_cases z : decide (p.1.2 ≤ 0) = decide (p.2.2 ≤ 0)
  · rw [if_pos z, if_pos z, z]
    cases decide (p.2.2 ≤ 0) <;> rfl
  · rw [if_neg z, if_neg z]
    have c0 := hc z
    have d1 : decide (0 < -crv p.1 p.2) = !decide (0 < crv p.1 p.2) := by
      rcases Int.lt_or_le 0 (crv p.1 p.2) with q | q
      · rw [decide_eq_true q, decide_eq_false (show ¬ 0 < -crv p.1 p.2 by omega)]; rfl
      · rw [decide_eq_false (show ¬ 0 < crv p.1 p.2 by omega), decide_eq_true (show 0 < -crv p.1 p.2 by omega)]; rfl
    have d2 : decide (-crv p.1 p.2 < 0) = decide (0 < crv p.1 p.2) := by rw [decide_eq_decide]; omega
    have d3 : decide (crv p.1 p.2 < 0) = !decide (0 < crv p.1 p.2) := by
      rcases Int.lt_or_le 0 (crv p.1 p.2) with q | q
      · rw [decide_eq_true q, decide_eq_false (show ¬ crv p.1 p.2 < 0 by omega)]; rfl
      · rw [decide_eq_false (show ¬ 0 < crv p.1 p.2 by omega), decide_eq_true (show crv p.1 p.2 < 0 by omega)]; rfl
    rw [d1, d2, d3]
    cases x : decide (p.1.2 ≤ 0) <;> cases y : decide (p.2.2 ≤ 0) <;> rw [x, y] at z <;> first | exact absurd rfl z | (cases decide (0 < crv p.1 p.2) <;> rfl)
theorem anyV_w (w : W4) (l : List V2) : anyV (l.map w.v) = anyV l := by
  unfold anyV
  rw [prs_map, List.any_map]
  congr 1
  funext p
  exact onV_w w p.1 p.2
theorem oddV_w (w : W4) {l : List V2} (h : anyV l = false) : oddV (l.map w.v) = oddV l := by
  cases w with
  | st =>
    have e : (W4.st.v : V2 → V2) = id := rfl
    rw [e, List.map_id]
  | tu => exact oddV_tu h
  | mi => exact oddV_mi h
  | ba =>
    have e : (W4.ba.v : V2 → V2) = W4.tu.v ∘ W4.tu.v := rfl
    rw [e, ← List.map_map, oddV_tu (by rw [anyV_w]; exact h), oddV_tu h]
/-! ### points -/
def anyP (l : List P3) (S : P3) : Bool := (prs l).any fun p => onB p.1 p.2 S
def oddP (l : List P3) (S : P3) : Bool := oddB (fun p => ovrB p.1 p.2 S) (prs l)
theorem any_congr {α : Type} {f g : α → Bool} : ∀ {l : List α}, (∀ a ∈ l, f a = g a) → l.any f = l.any g
  | [], _ => rfl
  | a :: r, h => by
    rw [List.any_cons, List.any_cons, h a List.mem_cons_self, any_congr fun b hb => h b (List.mem_cons_of_mem _ hb)]
theorem anyP_eq {l : List P3} {S : P3} (hS : 0 < S.2.2) (hl : ∀ P ∈ l, 0 < P.2.2) : anyP l S = anyV (l.map (dl S)) := by
  unfold anyP anyV
  rw [prs_map, List.any_map]
  exact any_congr fun p hp => onB_eq hS (hl _ (prs_mem hp).1) (hl _ (prs_mem hp).2)
theorem oddP_eq {l : List P3} {S : P3} (hS : 0 < S.2.2) : oddP l S = oddV (l.map (dl S)) := by
  unfold oddP oddV
  rw [prs_map, odd_map]
  exact odd_congr fun p hp => ovrB_eq hS
section
variable {l : Ld}
/-- the way from a led spot to a led point -/
theorem dl_led (h : l.Ok) {S P : P3} (nS : NmP S) (nP : NmP P) : ∃ k m : Int, 0 < k ∧ 0 < m ∧ mlv k (dl (l.p S) (l.p P)) = mlv m (l.w.v (dl S P)) := by
  obtain ⟨k, hk, e1⟩ := nrmP_scale (ld_z h nS.pos)
  obtain ⟨m, hm, e2⟩ := nrmP_scale (ld_z h nP.pos)
  have e := dl_mul k m (nrmP (l.m S)) (nrmP (l.m P))
  rw [← e1, ← e2] at e
  exact ⟨k * m, l.a * l.d, Int.mul_pos hk hm, Int.mul_pos h.a h.d, by rw [← dl_ld]; exact e.symm⟩
theorem led_on (h : l.Ok) {S A B : P3} (nS : NmP S) (nA : NmP A) (nB : NmP B) : onV (dl (l.p S) (l.p A)) (dl (l.p S) (l.p B)) = onV (dl S A) (dl S B) ∧ ov2 (dl (l.p S) (l.p A)) (dl (l.p S) (l.p B)) = ov2 (l.w.v (dl S A)) (l.w.v (dl S B)) := by
  obtain ⟨k, m, hk, hm, e1⟩ := dl_led h nS nA
  obtain ⟨k', m', hk', hm', e2⟩ := dl_led h nS nB
  constructor
  · rw [← onV_scale hk hk', e1, e2, onV_scale hm hm', onV_w]
  · rw [← ov2_scale hk hk', e1, e2, ov2_scale hm hm']
theorem led_any (h : l.Ok) {ps : List P3} {S : P3} (nS : NmP S) (hp : ∀ P ∈ ps, NmP P) : anyP (ps.map l.p) (l.p S) = anyP ps S := by
  rw [anyP_eq (ld_nm h nS).pos (fun P hP => by obtain ⟨R, hR, rfl⟩ := List.mem_map.mp hP; exact (ld_nm h (hp R hR)).pos), anyP_eq nS.pos fun P hP => (hp P hP).pos]
  unfold anyV
  rw [List.map_map, prs_map, prs_map, List.any_map, List.any_map]
  exact any_congr fun p hpp => (led_on h nS (hp _ (prs_mem hpp).1) (hp _ (prs_mem hpp).2)).1
theorem led_odd (h : l.Ok) {ps : List P3} {S : P3} (nS : NmP S) (hp : ∀ P ∈ ps, NmP P) (ha : anyP ps S = false) : oddP (ps.map l.p) (l.p S) = oddP ps S := by
  rw [oddP_eq (ld_nm h nS).pos, oddP_eq nS.pos]
  have e1 : oddV ((ps.map l.p).map (dl (l.p S))) = oddV ((ps.map (dl S)).map l.w.v) := by
    unfold oddV
    rw [List.map_map, List.map_map, prs_map, prs_map, odd_map, odd_map]
    exact odd_congr fun p hpp => (led_on h nS (hp _ (prs_mem hpp).1) (hp _ (prs_mem hpp).2)).2
  rw [e1]
  exact oddV_w l.w (by rw [← anyP_eq nS.pos fun P hP => (hp P hP).pos]; exact ha)
end
end Rf


set_option Elab.async false
set_option linter.all false
set_option maxRecDepth 100000
set_option maxHeartbeats 4000000
/-! Rl, part E: what is shown of data; told points of led own ones. -/
namespace Rf
open PySem PySem.Spec PyProof.Rows L2
/-- d shows p, at depth f, of at most m signs -/
structure PyG (f m : Nat) (d : D) (p : PyData) : Prop where
  to : ∀ (μ : Sto) (g : Nat), f ≤ g → toPy μ g d = some p
  leaf : leafOk p = true
  len : lenB p ≤ m
  dep : p.depth ≤ f
structure PyGs (f m : Nat) (ds : List D) (ps : List PyData) : Prop where
  to : ∀ (μ : Sto) (g : Nat), f ≤ g → pyL (toPy μ g) ds = some ps
  leaf : leafsOk ps = true
  len : lensB ps ≤ m
  dep : PyData.depthAll ps ≤ f
theorem fuel_s {f g : Nat} (h : f + 1 ≤ g) : ∃ k, g = k + 1 ∧ f ≤ k := ⟨g - 1, by omega, by omega⟩
theorem pg_int {i : Int} (h : okI i) : PyG 1 600 (.int i) (.int i) := ⟨fun μ g hg => by obtain ⟨k, rfl, _⟩ := fuel_s hg; rfl, by unfold leafOk; exact okI_show h, Nat.le_refl _, by unfold PyData.depth; omega⟩
theorem pg_bl (b : Bool) : PyG 1 5 (.bl b) (.bool b) := ⟨fun μ g hg => by obtain ⟨k, rfl, _⟩ := fuel_s hg; rfl, rfl, Nat.le_refl _, by unfold PyData.depth; omega⟩
theorem pg_non : PyG 1 5 .non .none := ⟨fun μ g hg => by obtain ⟨k, rfl, _⟩ := fuel_s hg; rfl, rfl, Nat.le_refl _, by unfold PyData.depth; omega⟩
theorem pg_str (x : Str) (h : leafOk (.str x) = true) (hl : x.length ≤ 1000) : PyG 1 10002 (.str x) (.str x) := ⟨fun μ g hg => by obtain ⟨k, rfl, _⟩ := fuel_s hg; rfl, h, by unfold lenB; omega, by unfold PyData.depth; omega⟩
theorem pgs_nil (f : Nat) : PyGs f 0 [] [] := ⟨fun μ g hg => rfl, rfl, Nat.le_refl _, by unfold PyData.depthAll; omega⟩
theorem pgs_cons {f a b : Nat} {d : D} {p : PyData} {ds : List D} {ps : List PyData} (h : PyG f a d p) (t : PyGs f b ds ps) : PyGs f (a + 2 + b) (d :: ds) (p :: ps) :=
  ⟨fun μ g hg => by unfold pyL; rw [h.to μ g hg, t.to μ g hg], by unfold leafsOk; rw [h.leaf, t.leaf]; rfl, by unfold lensB; have := h.len; have := t.len; omega, by unfold PyData.depthAll; have := h.dep; have := t.dep; omega⟩
theorem pg_tup {f m : Nat} {ds : List D} {ps : List PyData} (h : PyGs f m ds ps) : PyG (f + 1) (m + 3) (.tup ds) (.tuple ps) :=
  ⟨fun μ g hg => by obtain ⟨k, rfl, hk⟩ := fuel_s hg; show (pyL (toPy μ k) ds).map _ = _; rw [h.to μ k hk]; rfl, by unfold leafOk; exact h.leaf, by unfold lenB; have := h.len; omega, by unfold PyData.depth; have := h.dep; omega⟩
theorem pg_rol {f m : Nat} {ds : List D} {ps : List PyData} (h : PyGs f m ds ps) : PyG (f + 1) (m + 3) (.rol ds) (.list ps) :=
  ⟨fun μ g hg => by obtain ⟨k, rfl, hk⟩ := fuel_s hg; show (pyL (toPy μ k) ds).map _ = _; rw [h.to μ k hk]; rfl, by unfold leafOk; exact h.leaf, by unfold lenB; have := h.len; omega, by unfold PyData.depth; have := h.dep; omega⟩
theorem PyG.up {f g m : Nat} {d : D} {p : PyData} (h : PyG f m d p) (e : f ≤ g) : PyG g m d p := ⟨fun μ k hk => h.to μ k (by omega), h.leaf, h.len, by have := h.dep; omega⟩
theorem PyG.py {f m : Nat} {d : D} {p : PyData} (h : PyG f m d p) (hf : f ≤ 40) (hm : m ≤ 16000000) (μ : Sto) : pyOk μ d = some p := by
  unfold pyOk
  rw [h.to μ FU (by unfold FU; omega)]
  show (if okShow p then some p else none) = _
  rw [if_pos]
  unfold okShow
  rw [h.leaf, decide_eq_true (show lenB p ≤ 16000000 by have := h.len; omega), decide_eq_true (show p.depth ≤ 60 by have := h.dep; omega)]
  rfl
/-- shown somehow -/
def Shw (d : D) : Prop := ∃ p : PyData, ∀ μ : Sto, pyOk μ d = some p
theorem PyG.shw {f m : Nat} {d : D} {p : PyData} (h : PyG f m d p) (hf : f ≤ 40) (hm : m ≤ 16000000) : Shw d := ⟨p, h.py hf hm⟩
theorem pg_pD {P : P3} (h : BdP P 1800) : PyG 2 1809 (pD P) (.tuple [.int P.1, .int P.2.1, .int P.2.2]) := pg_tup (pgs_cons (pg_int h.1) (pgs_cons (pg_int h.2.1) (pgs_cons (pg_int h.2.2) (pgs_nil 1))))
theorem pg_word (x : Str) (h : leafOk (.str x) = true) (hl : x.length ≤ 1000) : PyG 2 10007 (.tup [.str x]) (.tuple [.str x]) := pg_tup (pgs_cons (pg_str x h hl) (pgs_nil 1))
theorem pg_touch {P : P3} (h : BdP P 1800) : ∃ p, PyG 3 11818 (tTouch P) p := ⟨_, pg_tup (pgs_cons ((pg_str "touch" (by decide +kernel) (by decide)).up (by decide)) (pgs_cons (pg_pD h) (pgs_nil 2)))⟩
theorem pg_cross {P : P3} (h : BdP P 1800) : ∃ p, PyG 3 11818 (tCross P) p := ⟨_, pg_tup (pgs_cons ((pg_str "cross" (by decide +kernel) (by decide)).up (by decide)) (pgs_cons (pg_pD h) (pgs_nil 2)))⟩
/-! ### led own points -/
def W4.ox : W4 → Fr × Fr → Fr
  | .st, p => p.1
  | .tu, p => tms (-1, 1) p.2
  | .mi, p => tms (-1, 1) p.1
  | .ba, p => tms (-1, 1) p.1
def W4.oy : W4 → Fr × Fr → Fr
  | .st, p => p.2
  | .tu, p => p.1
  | .mi, p => p.2
  | .ba, p => tms (-1, 1) p.2
def ledO (w : W4) (f : Fr) (s p : Fr × Fr) : Fr × Fr := (pls (tms f (w.ox p)) s.1, pls (tms f (w.oy p)) s.2)
def ldOf (w : W4) (f : Fr) (s : Fr × Fr) : Ld := ⟨w, f.1 * s.1.2 * s.2.2, s.1.1 * f.2 * s.2.2, s.2.1 * f.2 * s.1.2, f.2 * s.1.2 * s.2.2⟩
theorem ldOf_ok {w : W4} {f : Fr} {s : Fr × Fr} (hf : 0 < f.1) (hf2 : 0 < f.2) (hs : RedP s) : (ldOf w f s).Ok :=
  ⟨Int.mul_pos (Int.mul_pos hf hs.1.pos) hs.2.pos, Int.mul_pos (Int.mul_pos hf2 hs.1.pos) hs.2.pos⟩
theorem ox_q (w : W4) {p : Fr × Fr} {P : P3} (hp : RedP p) (q1 : Q P.1 P.2.2 p.1.1 p.1.2) (q2 : Q P.2.1 P.2.2 p.2.1 p.2.2) : (Red (w.ox p) ∧ Q (w.x P.1 P.2.1) P.2.2 (w.ox p).1 (w.ox p).2) ∧ (Red (w.oy p) ∧ Q (w.y P.1 P.2.1) P.2.2 (w.oy p).1 (w.oy p).2) := by
  have m : ∀ {r : Fr} {a z : Int}, Red r → Q a z r.1 r.2 → Red (tms (-1, 1) r) ∧ Q (-a) z (tms (-1, 1) r).1 (tms (-1, 1) r).2 := fun {r a z} hr q => by
    obtain ⟨r1, t1⟩ := tms_ok (p := (-1, 1)) (q := r) m1ne (red_ne hr)
    refine ⟨r1, Q.trans ?_ t1.symm⟩
    have e := q.eq
    exact ⟨q.dn, t1.en, by show -a * (1 * r.2) = -1 * r.1 * z; grind⟩
  cases w with
  | st => exact ⟨⟨hp.1, q1⟩, hp.2, q2⟩
  | tu => exact ⟨m hp.2 q2, hp.1, q1⟩
  | mi => exact ⟨m hp.1 q1, hp.2, q2⟩
  | ba => exact ⟨m hp.1 q1, m hp.2 q2⟩
theorem led_told {w : W4} {f : Fr} {s p : Fr × Fr} (hf : 0 < f.1) (rf : Red f) (hs : RedP s) (hp : RedP p) : RedP (ledO w f s p) ∧ toldP (ledO w f s p) = (ldOf w f s).p (toldP p) := by
  obtain ⟨nP, p1, p2⟩ := toldP_ok hp
  obtain ⟨⟨rx, x1⟩, ry, y1⟩ := ox_q w hp p1 p2
  obtain ⟨t1, u1⟩ := tms_ok (p := f) (q := w.ox p) (red_ne rf) (red_ne rx)
  obtain ⟨t2, u2⟩ := tms_ok (p := f) (q := w.oy p) (red_ne rf) (red_ne ry)
  obtain ⟨v1, w1⟩ := pls_ok (p := tms f (w.ox p)) (q := s.1) (red_ne t1) (red_ne hs.1)
  obtain ⟨v2, w2⟩ := pls_ok (p := tms f (w.oy p)) (q := s.2) (red_ne t2) (red_ne hs.2)
  have hl := ldOf_ok (w := w) hf rf.pos hs
  obtain ⟨nG, g1, g2⟩ := toldP_ok (a := ledO w f s p) ⟨v1, v2⟩
  refine ⟨⟨v1, v2⟩, ?_⟩
  have zz := ld_zne hl (nmP_ne nP)
  obtain ⟨z1, z2⟩ := nrmP_q zz
  have k1 := w1.trans (Q.add (u1.trans (Q.mul (Q.self (n := f.1) (red_ne rf)) x1.symm)) (Q.self (n := s.1.1) (red_ne hs.1)))
  have k2 := w2.trans (Q.add (u2.trans (Q.mul (Q.self (n := f.1) (red_ne rf)) y1.symm)) (Q.self (n := s.2.1) (red_ne hs.2)))
  refine nmP_eq nG (nrmP_nm zz) (g1.trans (k1.trans (Q.trans ⟨k1.en, zz, ?_⟩ z1.symm))) (g2.trans (k2.trans (Q.trans ⟨k2.en, zz, ?_⟩ z2.symm)))
  · unfold Ld.m ldOf
    simp only
    generalize w.x (toldP p).1 (toldP p).2.1 = X
    grind
  · unfold Ld.m ldOf
    simp only
    generalize w.y (toldP p).1 (toldP p).2.1 = X
    grind
/-! ### what is told, led over: by its kind -/
theorem ldd_none {l : Ld} {y : D} (h : LdD l tNone y) : y = tNone := by
  rcases h with ⟨_, e⟩ | ⟨e, _⟩ | ⟨P, _, e, _⟩ | ⟨P, _, e, _⟩
  · exact e
  all_goals (unfold tNone at e; first | (unfold tAlong at e; injection e with e; injection e with e; injection e with e; exact absurd e (by decide)) | (unfold tTouch at e; injection e with e; injection e with e e2; cases e2) | (unfold tCross at e; injection e with e; injection e with e e2; cases e2))
theorem ldd_along {l : Ld} {y : D} (h : LdD l tAlong y) : y = tAlong := by
  rcases h with ⟨e, _⟩ | ⟨_, e⟩ | ⟨P, _, e, _⟩ | ⟨P, _, e, _⟩
  · unfold tNone tAlong at e; injection e with e; injection e with e; injection e with e; exact absurd e (by decide)
  · exact e
  all_goals (unfold tAlong at e; first | (unfold tTouch at e; injection e with e; injection e with e e2; cases e2) | (unfold tCross at e; injection e with e; injection e with e e2; cases e2))
theorem pD_inj {P R : P3} (h : pD P = pD R) : P = R := by
  injection h with h
  injection h with h1 h
  injection h with h2 h
  injection h with h3 h
  injection h1 with h1
  injection h2 with h2
  injection h3 with h3
  exact p3_eq h1 h2 h3
theorem ldd_touch {l : Ld} {P : P3} {y : D} (h : LdD l (tTouch P) y) : y = tTouch (l.p P) := by
  rcases h with ⟨e, _⟩ | ⟨e, _⟩ | ⟨R, _, e, z⟩ | ⟨R, _, e, _⟩
  · unfold tNone tTouch at e; injection e with e; injection e with e e2; cases e2
  · unfold tAlong tTouch at e; injection e with e; injection e with e e2; cases e2
  · unfold tTouch at e
    injection e with e
    injection e with _ e
    injection e with e _
    rw [z, pD_inj e]
  · unfold tTouch tCross at e; injection e with e; injection e with e; injection e with e; exact absurd e (by decide)
theorem ldd_cross {l : Ld} {P : P3} {y : D} (h : LdD l (tCross P) y) : y = tCross (l.p P) := by
  rcases h with ⟨e, _⟩ | ⟨e, _⟩ | ⟨R, _, e, _⟩ | ⟨R, _, e, z⟩
  · unfold tNone tCross at e; injection e with e; injection e with e e2; cases e2
  · unfold tAlong tCross at e; injection e with e; injection e with e e2; cases e2
  · unfold tTouch tCross at e; injection e with e; injection e with e; injection e with e; exact absurd e (by decide)
  · unfold tCross at e
    injection e with e
    injection e with _ e
    injection e with e _
    rw [z, pD_inj e]
theorem ldp_bd {l : Ld} (h : l.Ok) {P : P3} {a e k : Nat} (nP : NmP P) (ha : l.a.natAbs < 2 ^ a) (hu : l.u.natAbs < 2 ^ a) (hv : l.v.natAbs < 2 ^ a) (hd : l.d.natAbs < 2 ^ a) (b : BdP P e) (hk : a + e + 1 ≤ k) : BdP (l.p P) k := by
  obtain ⟨b1, b2, b3⟩ := b
  have wx : (l.w.x P.1 P.2.1).natAbs < 2 ^ e ∧ (l.w.y P.1 P.2.1).natAbs < 2 ^ e := by
    cases l.w <;> (unfold W4.x W4.y; simp only; constructor <;> omega)
  obtain ⟨_, _, _, k1, k2, k3⟩ := nrm_spec (x := (l.m P).1) (y := (l.m P).2.1) (ld_zne h (nmP_ne nP))
  exact ⟨le_bd (Nat.lt_of_le_of_lt k1 (add_bd (mul_bd ha wx.1) (mul_bd hu b3))) (by omega), le_bd (Nat.lt_of_le_of_lt k2 (add_bd (mul_bd ha wx.2) (mul_bd hv b3))) (by omega), le_bd (Nat.lt_of_le_of_lt k3 (mul_bd hd b3)) (by omega)⟩
theorem Ring_led {l : Ld} (h : l.Ok) {ps : List P3} {e k : Nat} {Rg : List P3 → Nat → Prop} (len : 3 ≤ ps.length) (hn : ∀ P ∈ ps, NmP P) (hne : ∀ p ∈ prs ps, p.1 ≠ p.2) : ∀ p ∈ prs (ps.map l.p), p.1 ≠ p.2 := by
  intro p hp
  rw [prs_map] at hp
  obtain ⟨q, hq, rfl⟩ := List.mem_map.mp hp
  intro z
  exact hne q hq ((ld_inj h (hn _ (prs_mem hq).1) (hn _ (prs_mem hq).2)).mp z)
end Rf


set_option Elab.async false
set_option linter.all false
set_option maxRecDepth 100000
set_option maxHeartbeats 0
/-! the text of k05 -/
namespace Rf
open PySem PySem.Spec PyProof.Rows L2
abbrev top (i : Nat) : Stmt := PySem.Challenge.pw_ringsorways_k05_whole_the_same_moved_tur.main.body.getD i (.Pass ⟨0, 0, 0, 0⟩)
def b_is_whole : List S := [(.ret (.and (.isi (.var 0) .int) (.not (.isi (.var 0) .bool))))]
def d_is_whole : Dp := ⟨"is_whole", ["value"], ["value"], defArgs (top 2), defBody (top 2), defScope (top 2), b_is_whole⟩
def b_is_tuple : List S := [(.ret (.and (.isi (.var 0) .tuple) (.chn .LtE .LtE (.var 1) (.blt .len (.cons (.var 0) .nil)) (.var 2))))]
def d_is_tuple : Dp := ⟨"is_tuple", ["value", "low", "high"], ["value", "low", "high"], defArgs (top 3), defBody (top 3), defScope (top 3), b_is_tuple⟩
def b_common : List S := [(.par 0 1 (.blt .abs (.cons (.var 0) .nil)) (.blt .abs (.cons (.var 1) .nil))), (.wil (.cmp .NotEq (.var 1) (.cst (.int 0))) [(.par 0 1 (.var 1) (.bin .Mod (.var 0) (.var 1)))]), (.ret (.var 0))]
def d_common : Dp := ⟨"common", ["one", "other"], ["one", "other"], defArgs (top 4), defBody (top 4), defScope (top 4), b_common⟩
def b_is_fraction : List S := [(.ife (.or (.not (.cal "is_tuple" (.cons (.var 0) (.cons (.glo "PAIR" (.int 2)) (.cons (.glo "PAIR" (.int 2)) .nil))))) (.or (.not (.cal "is_whole" (.cons (.idx (.var 0) (.cst (.int 0))) .nil))) (.or (.not (.cal "is_whole" (.cons (.idx (.var 0) (.cst (.int 1))) .nil))) (.cmp .Lt (.idx (.var 0) (.cst (.int 1))) (.cst (.int 1)))))) [(.ret (.cst (.bl false)))] []), (.ret (.cmp .Eq (.cal "common" (.cons (.idx (.var 0) (.cst (.int 0))) (.cons (.idx (.var 0) (.cst (.int 1))) .nil))) (.cst (.int 1))))]
def d_is_fraction : Dp := ⟨"is_fraction", ["value"], ["value"], defArgs (top 5), defBody (top 5), defScope (top 5), b_is_fraction⟩
def b_is_share : List S := [(.ret (.and (.cal "is_fraction" (.cons (.var 0) .nil)) (.chn .LtE .LtE (.cst (.int 0)) (.idx (.var 0) (.cst (.int 0))) (.idx (.var 0) (.cst (.int 1))))))]
def d_is_share : Dp := ⟨"is_share", ["value"], ["value"], defArgs (top 6), defBody (top 6), defScope (top 6), b_is_share⟩
def b_is_point : List S := [(.ife (.or (.not (.cal "is_tuple" (.cons (.var 0) (.cons (.glo "TRIPLE_points" (.int 3)) (.cons (.glo "TRIPLE_points" (.int 3)) .nil))))) (.or (.not (.blt .all (.cons (.lcm (.nm 1) (.seq (.var 0)) .none (.cal "is_whole" (.cons (.var 1) .nil)) [("one", 1)]) .nil))) (.cmp .Lt (.idx (.var 0) (.neg (.cst (.int 1)))) (.cst (.int 1))))) [(.ret (.cst (.bl false)))] []), (.ret (.cmp .Eq (.cal "common" (.cons (.cal "common" (.cons (.idx (.var 0) (.cst (.int 0))) (.cons (.idx (.var 0) (.cst (.int 1))) .nil))) (.cons (.idx (.var 0) (.neg (.cst (.int 1)))) .nil))) (.cst (.int 1))))]
def d_is_point : Dp := ⟨"is_point", ["value", "one"], ["value"], defArgs (top 16), defBody (top 16), defScope (top 16), b_is_point⟩
def b_point_at : List S := [(.set 3 (.cal "common" (.cons (.cal "common" (.cons (.var 0) (.cons (.var 1) .nil))) (.cons (.var 2) .nil)))), (.set 3 (.ife (.cmp .Gt (.var 2) (.cst (.int 0))) (.var 3) (.neg (.var 3)))), (.ret (.tup (.cons (.bin .FloorDiv (.var 0) (.var 3)) (.cons (.bin .FloorDiv (.var 1) (.var 3)) (.cons (.bin .FloorDiv (.var 2) (.var 3)) .nil)))))]
def d_point_at : Dp := ⟨"point_at", ["x", "y", "bottom", "by"], ["x", "y", "bottom"], defArgs (top 17), defBody (top 17), defScope (top 17), b_point_at⟩
def b_is_ahead : List S := [(.par 2 3 (.bin .Mult (.idx (.var 0) (.cst (.int 0))) (.idx (.var 1) (.neg (.cst (.int 1))))) (.bin .Mult (.idx (.var 1) (.cst (.int 0))) (.idx (.var 0) (.neg (.cst (.int 1)))))), (.ife (.cmp .NotEq (.var 2) (.var 3)) [(.ret (.cmp .Lt (.var 2) (.var 3)))] []), (.ret (.cmp .Lt (.bin .Mult (.idx (.var 0) (.cst (.int 1))) (.idx (.var 1) (.neg (.cst (.int 1))))) (.bin .Mult (.idx (.var 1) (.cst (.int 1))) (.idx (.var 0) (.neg (.cst (.int 1)))))))]
def d_is_ahead : Dp := ⟨"is_ahead", ["one", "other", "here", "there"], ["one", "other"], defArgs (top 18), defBody (top 18), defScope (top 18), b_is_ahead⟩
def b_check_points : List S := [(.foR (.nm 1) (.seq (.var 0)) [(.ife (.not (.cal "is_point" (.cons (.var 1) .nil))) [(.rai "BadPoint" (.var 1))] [])])]
def d_check_points : Dp := ⟨"check_points", ["values", "value"], ["values"], defArgs (top 25), defBody (top 25), defScope (top 25), b_check_points⟩
def b_is_closed_line : List S := [(.ife (.or (.not (.isi (.var 0) .tuple)) (.or (.cmp .Lt (.blt .len (.cons (.var 0) .nil)) (.glo "TRIPLE_plane" (.int 3))) (.not (.blt .all (.cons (.lcm (.nm 1) (.seq (.var 0)) .none (.cal "is_point" (.cons (.var 1) .nil)) [("one", 1)]) .nil))))) [(.ret (.cst (.bl false)))] []), (.ret (.blt .all (.cons (.lcm (.tp [(.nm 1), (.nm 2)]) (.zip (.var 0) (.bin .Add (.slc (.var 0) (.some (.cst (.int 1))) .none) (.slc (.var 0) .none (.some (.cst (.int 1)))))) .none (.cmp .NotEq (.var 1) (.var 2)) [("one", 1), ("other", 2)]) .nil)))]
def d_is_closed_line : Dp := ⟨"is_closed_line", ["value", "one", "other"], ["value"], defArgs (top 26), defBody (top 26), defScope (top 26), b_is_closed_line⟩
def b_line_through : List S := [(.tgt (.tp [(.nm 2), (.nm 3), (.nm 4)]) (.var 0)), (.tgt (.tp [(.nm 5), (.nm 6), (.nm 7)]) (.var 1)), (.ret (.tup (.cons (.bin .Sub (.bin .Mult (.var 3) (.var 7)) (.bin .Mult (.var 4) (.var 6))) (.cons (.bin .Sub (.bin .Mult (.var 4) (.var 5)) (.bin .Mult (.var 2) (.var 7))) (.cons (.bin .Sub (.bin .Mult (.var 2) (.var 6)) (.bin .Mult (.var 3) (.var 5))) .nil)))))]
def d_line_through : Dp := ⟨"line_through", ["one", "other", "x", "y", "z", "a", "b", "c"], ["one", "other"], defArgs (top 27), defBody (top 27), defScope (top 27), b_line_through⟩
def b_line_side : List S := [(.tgt (.tp [(.nm 4), (.nm 5), (.nm 6)]) (.cal "line_through" (.cons (.var 0) (.cons (.var 1) .nil)))), (.set 3 (.bin .Add (.bin .Add (.bin .Mult (.var 4) (.idx (.var 2) (.cst (.int 0)))) (.bin .Mult (.var 5) (.idx (.var 2) (.cst (.int 1))))) (.bin .Mult (.var 6) (.idx (.var 2) (.neg (.cst (.int 1))))))), (.ret (.ife (.cmp .Gt (.var 3) (.cst (.int 0))) (.cst (.int 1)) (.ife (.cmp .Lt (.var 3) (.cst (.int 0))) (.neg (.cst (.int 1))) (.cst (.int 0)))))]
def d_line_side : Dp := ⟨"line_side", ["a", "b", "c", "number", "p", "q", "r"], ["a", "b", "c"], defArgs (top 28), defBody (top 28), defScope (top 28), b_line_side⟩
def b_lies_on : List S := [(.ife (.cmp .NotEq (.cal "line_side" (.cons (.var 0) (.cons (.var 1) (.cons (.var 2) .nil)))) (.cst (.int 0))) [(.ret (.cst (.bl false)))] []), (.ret (.not (.cal "is_out" (.cons (.var 0) (.cons (.var 1) (.cons (.var 2) .nil))))))]
def d_lies_on : Dp := ⟨"lies_on", ["a", "b", "point"], ["a", "b", "point"], defArgs (top 29), defBody (top 29), defScope (top 29), b_lies_on⟩
def b_is_out : List S := [(.tgt (.tp [(.nm 3), (.nm 4)]) (.ife (.cal "is_ahead" (.cons (.var 1) (.cons (.var 0) .nil))) (.tup (.cons (.var 1) (.cons (.var 0) .nil))) (.tup (.cons (.var 0) (.cons (.var 1) .nil))))), (.ret (.or (.cal "is_ahead" (.cons (.var 2) (.cons (.var 3) .nil))) (.cal "is_ahead" (.cons (.var 4) (.cons (.var 2) .nil)))))]
def d_is_out : Dp := ⟨"is_out", ["a", "b", "point", "low", "high"], ["a", "b", "point"], defArgs (top 30), defBody (top 30), defScope (top 30), b_is_out⟩
def b_overlap_of : List S := [(.tgt (.tp [(.nm 4), (.nm 5)]) (.ife (.cal "is_ahead" (.cons (.var 1) (.cons (.var 0) .nil))) (.tup (.cons (.var 1) (.cons (.var 0) .nil))) (.tup (.cons (.var 0) (.cons (.var 1) .nil))))), (.tgt (.tp [(.nm 6), (.nm 7)]) (.ife (.cal "is_ahead" (.cons (.var 3) (.cons (.var 2) .nil))) (.tup (.cons (.var 3) (.cons (.var 2) .nil))) (.tup (.cons (.var 2) (.cons (.var 3) .nil))))), (.par 4 5 (.ife (.cal "is_ahead" (.cons (.var 4) (.cons (.var 6) .nil))) (.var 6) (.var 4)) (.ife (.cal "is_ahead" (.cons (.var 7) (.cons (.var 5) .nil))) (.var 7) (.var 5))), (.ife (.cmp .Eq (.var 4) (.var 5)) [(.ret (.tup (.cons (.glo "TOUCH" (.str "touch")) (.cons (.var 4) .nil))))] []), (.ret (.ife (.cal "is_ahead" (.cons (.var 4) (.cons (.var 5) .nil))) (.tup (.cons (.glo "ALONG" (.str "along")) .nil)) (.tup (.cons (.glo "NONE" (.str "none")) .nil))))]
def d_overlap_of : Dp := ⟨"overlap_of", ["a", "b", "c", "d", "low", "high", "first", "last"], ["a", "b", "c", "d"], defArgs (top 31), defBody (top 31), defScope (top 31), b_overlap_of⟩
def b_crossing_of : List S := [(.par 4 5 (.tup (.cons (.cal "line_side" (.cons (.var 2) (.cons (.var 3) (.cons (.var 0) .nil)))) (.cons (.cal "line_side" (.cons (.var 2) (.cons (.var 3) (.cons (.var 1) .nil)))) .nil))) (.tup (.cons (.cal "line_side" (.cons (.var 0) (.cons (.var 1) (.cons (.var 2) .nil)))) (.cons (.cal "line_side" (.cons (.var 0) (.cons (.var 1) (.cons (.var 3) .nil)))) .nil)))), (.ife (.cmp .Eq (.var 4) (.tup (.cons (.cst (.int 0)) (.cons (.cst (.int 0)) .nil)))) [(.ret (.cal "overlap_of" (.cons (.var 0) (.cons (.var 1) (.cons (.var 2) (.cons (.var 3) .nil))))))] []), (.ife (.or (.cmp .Gt (.bin .Mult (.idx (.var 4) (.cst (.int 0))) (.idx (.var 4) (.cst (.int 1)))) (.cst (.int 0))) (.cmp .Gt (.bin .Mult (.idx (.var 5) (.cst (.int 0))) (.idx (.var 5) (.cst (.int 1)))) (.cst (.int 0)))) [(.ret (.tup (.cons (.glo "NONE" (.str "none")) .nil)))] []), (.foR (.tp [(.nm 6), (.nm 7)]) (.zip (.tup (.cons (.var 0) (.cons (.var 1) (.cons (.var 2) (.cons (.var 3) .nil))))) (.tupS (.star (.var 4) (.star (.var 5) .nil)))) [(.ife (.cmp .Eq (.var 7) (.cst (.int 0))) [(.ret (.tup (.cons (.glo "TOUCH" (.str "touch")) (.cons (.var 6) .nil))))] [])]), (.tgt (.tp [(.nm 8), (.nm 9), (.nm 10)]) (.cal "line_through" (.cons (.cal "line_through" (.cons (.var 0) (.cons (.var 1) .nil))) (.cons (.cal "line_through" (.cons (.var 2) (.cons (.var 3) .nil))) .nil)))), (.ret (.tup (.cons (.glo "CROSS" (.str "cross")) (.cons (.cal "point_at" (.cons (.var 8) (.cons (.var 9) (.cons (.var 10) .nil)))) .nil))))]
def d_crossing_of : Dp := ⟨"crossing_of", ["a", "b", "c", "d", "here", "there", "point", "number", "x", "y", "bottom"], ["a", "b", "c", "d"], defArgs (top 32), defBody (top 32), defScope (top 32), b_crossing_of⟩
def b_is_over : List S := [(.tgt (.tp [(.nm 3), (.nm 4)]) (.lcm (.nm 5) (.seq (.tup (.cons (.var 0) (.cons (.var 1) .nil)))) .none (.cmp .LtE (.bin .Mult (.idx (.var 5) (.cst (.int 1))) (.idx (.var 2) (.neg (.cst (.int 1))))) (.bin .Mult (.idx (.var 2) (.cst (.int 1))) (.idx (.var 5) (.neg (.cst (.int 1)))))) [("end", 5)])), (.ife (.cmp .Eq (.var 3) (.var 4)) [(.ret (.cst (.bl false)))] []), (.ret (.ife (.var 3) (.cmp .Gt (.cal "line_side" (.cons (.var 0) (.cons (.var 1) (.cons (.var 2) .nil)))) (.cst (.int 0))) (.cmp .Gt (.cal "line_side" (.cons (.var 1) (.cons (.var 0) (.cons (.var 2) .nil)))) (.cst (.int 0)))))]
def d_is_over : Dp := ⟨"is_over", ["one", "other", "spot", "is_below", "is_above", "end"], ["one", "other", "spot"], defArgs (top 33), defBody (top 33), defScope (top 33), b_is_over⟩
def b_is_odd_about : List S := [(.set 2 (.blt .len (.cons (.lcm (.tp [(.nm 3), (.nm 4)]) (.zip (.var 0) (.bin .Add (.slc (.var 0) (.some (.cst (.int 1))) .none) (.slc (.var 0) .none (.some (.cst (.int 1)))))) (.some (.cal "is_over" (.cons (.var 3) (.cons (.var 4) (.cons (.var 1) .nil))))) (.cst (.int 1)) [("one", 3), ("other", 4)]) .nil))), (.ret (.cmp .Eq (.bin .Mod (.var 2) (.cst (.int 2))) (.cst (.int 1))))]
def d_is_odd_about : Dp := ⟨"is_odd_about", ["points", "spot", "many", "one", "other"], ["points", "spot"], defArgs (top 34), defBody (top 34), defScope (top 34), b_is_odd_about⟩
def b_side : List S := [(.dro (.cal "check_points" (.cons (.tup (.cons (.var 0) (.cons (.var 1) (.cons (.var 2) .nil)))) .nil))), (.ret (.cal "line_side" (.cons (.var 0) (.cons (.var 1) (.cons (.var 2) .nil)))))]
def d_side : Dp := ⟨"side", ["a", "b", "c"], ["a", "b", "c"], defArgs (top 35), defBody (top 35), defScope (top 35), b_side⟩
def b_meet : List S := [(.dro (.cal "check_points" (.cons (.tup (.cons (.var 0) (.cons (.var 1) (.cons (.var 2) (.cons (.var 3) .nil))))) .nil))), (.foR (.nm 4) (.seq (.tup (.cons (.tup (.cons (.var 0) (.cons (.var 1) .nil))) (.cons (.tup (.cons (.var 2) (.cons (.var 3) .nil))) .nil)))) [(.ife (.cmp .Eq (.idx (.var 4) (.cst (.int 0))) (.idx (.var 4) (.cst (.int 1)))) [(.rai "Same" (.var 4))] [])]), (.ret (.cal "crossing_of" (.cons (.var 0) (.cons (.var 1) (.cons (.var 2) (.cons (.var 3) .nil))))))]
def d_meet : Dp := ⟨"meet", ["a", "b", "c", "d", "pair"], ["a", "b", "c", "d"], defArgs (top 36), defBody (top 36), defScope (top 36), b_meet⟩
def b_between : List S := [(.dro (.cal "check_points" (.cons (.tup (.cons (.var 0) (.cons (.var 1) .nil))) .nil))), (.ife (.not (.cal "is_share" (.cons (.var 2) .nil))) [(.rai "BadShare" (.var 2))] []), (.tgt (.tp [(.nm 3), (.nm 4)]) (.var 2)), (.tgt (.tp [(.nm 5), (.nm 6)]) (.lcm (.tp [(.nm 7), (.nm 8)]) (.zip (.slc (.var 0) .none (.some (.neg (.cst (.int 1))))) (.slc (.var 1) .none (.some (.neg (.cst (.int 1)))))) .none (.bin .Add (.bin .Mult (.bin .Mult (.bin .Sub (.var 4) (.var 3)) (.var 7)) (.idx (.var 1) (.neg (.cst (.int 1))))) (.bin .Mult (.bin .Mult (.var 3) (.var 8)) (.idx (.var 0) (.neg (.cst (.int 1)))))) [("one", 7), ("other", 8)])), (.ret (.cal "point_at" (.cons (.var 5) (.cons (.var 6) (.cons (.bin .Mult (.bin .Mult (.var 4) (.idx (.var 0) (.neg (.cst (.int 1))))) (.idx (.var 1) (.neg (.cst (.int 1))))) .nil)))))]
def d_between : Dp := ⟨"between", ["a", "b", "share", "top", "bottom", "x", "y", "one", "other"], ["a", "b", "share"], defArgs (top 37), defBody (top 37), defScope (top 37), b_between⟩
def b_inside : List S := [(.ife (.not (.cal "is_closed_line" (.cons (.var 0) .nil))) [(.rai "BadRing" (.var 0))] []), (.dro (.cal "check_points" (.cons (.tup (.cons (.var 1) .nil)) .nil))), (.foR (.tp [(.nm 2), (.nm 3)]) (.zip (.var 0) (.bin .Add (.slc (.var 0) (.some (.cst (.int 1))) .none) (.slc (.var 0) .none (.some (.cst (.int 1)))))) [(.ife (.cal "lies_on" (.cons (.var 2) (.cons (.var 3) (.cons (.var 1) .nil)))) [(.rai "OnLine" (.var 1))] [])]), (.ret (.cal "is_odd_about" (.cons (.var 0) (.cons (.var 1) .nil))))]
def d_inside : Dp := ⟨"inside", ["points", "spot", "one", "other"], ["points", "spot"], defArgs (top 38), defBody (top 38), defScope (top 38), b_inside⟩
def b__law_pot : List S := [(.set 2 (.ife (.cmp .Lt (.var 1) (.blt .len (.cons (.var 0) .nil))) (.idx (.var 0) (.var 1)) (.bin .Add (.bin .Add (.bin .Mod (.blt .sum (.cons (.slc (.var 0) .none (.some (.cst (.int 1)))) .nil)) (.cst (.int 1000003))) (.bin .Mult (.cst (.int 1314)) (.var 1))) (.cst (.int 604))))), (.set 3 (.bin .Mult (.bin .Mod (.blt .int (.cons (.blt .abs (.cons (.var 2) .nil)) .nil)) (.bin .Pow (.bin .Pow (.cst (.int 10)) (.cst (.int 60))) (.cst (.int 5)))) (.blt .int (.cons (.cmp .GtE (.blt .abs (.cons (.var 2) .nil)) (.bin .Pow (.cst (.int 10)) (.cst (.int 18)))) .nil)))), (.set 4 (.bin .Mod (.blt .int (.cons (.var 2) .nil)) (.cst (.int 2305843009213693951)))), (.ret (.mls (.cons (.var 3) (.cons (.bin .Mod (.blt .int (.cons (.bin .Add (.bin .Add (.bin .Mult (.var 4) (.cst (.int 73514))) (.bin .Mult (.bin .Mult (.cst (.int 8204)) (.var 1)) (.var 1))) (.cst (.int 562))) .nil)) (.cst (.int 2305843009213693921))) (.cons (.cst (.int 0)) .nil)))))]
def d__law_pot : Dp := ⟨"_law_pot", ["script", "place", "cell", "own", "small"], ["script", "place"], defArgs (top 40), defBody (top 40), defScope (top 40), b__law_pot⟩
def b__law_take : List S := [(.ife (.cmp .Gt (.idx (.var 0) (.cst (.int 0))) (.cst (.int 0))) [(.set 4 (.bin .Mod (.blt .int (.cons (.idx (.var 0) (.cst (.int 0))) .nil)) (.var 1))), (.sub (.var 0) (.cst (.int 0)) (.bin .FloorDiv (.idx (.var 0) (.cst (.int 0))) (.var 1))), (.ret (.var 4))] []), (.sub (.var 0) (.cst (.int 2)) (.bin .Add (.idx (.var 0) (.cst (.int 2))) (.cst (.int 1)))), (.set 2 (.idx (.lst (.cons (.cst (.int 2147483647)) (.cons (.cst (.int 2147483629)) (.cons (.cst (.int 2147483587)) (.cons (.cst (.int 2147483579)) (.cons (.cst (.int 2147483563)) .nil)))))) (.bin .Mod (.blt .int (.cons (.idx (.var 0) (.cst (.int 2))) .nil)) (.cst (.int 5))))), (.set 3 (.bin .Mod (.blt .int (.cons (.bin .Pow (.blt .int (.cons (.bin .Add (.bin .Add (.idx (.var 0) (.cst (.int 1))) (.bin .Mult (.bin .Mult (.cst (.int 99548)) (.idx (.var 0) (.cst (.int 2)))) (.idx (.var 0) (.cst (.int 2))))) (.cst (.int 846))) .nil)) (.cst (.int 3))) .nil)) (.var 2))), (.set 3 (.bin .Mod (.blt .int (.cons (.bin .Mult (.var 3) (.bin .Add (.bin .Mod (.blt .int (.cons (.var 3) .nil)) (.cst (.int 10614))) (.bin .Mult (.cst (.int 202)) (.idx (.var 0) (.cst (.int 2)))))) .nil)) (.cst (.int 2305843009213693907)))), (.ret (.bin .Mod (.blt .int (.cons (.bin .FloorDiv (.var 3) (.cst (.int 167))) .nil)) (.var 1)))]
def d__law_take : Dp := ⟨"_law_take", ["pot", "upto", "prime", "blend", "digit"], ["pot", "upto"], defArgs (top 41), defBody (top 41), defScope (top 41), b__law_take⟩
def b__law_of : List S := [(.ret (.idx (.var 1) (.cal "_law_take" (.cons (.var 0) (.cons (.blt .len (.cons (.var 1) .nil)) .nil)))))]
def d__law_of : Dp := ⟨"_law_of", ["pot", "some"], ["pot", "some"], defArgs (top 42), defBody (top 42), defScope (top 42), b__law_of⟩
def b__law_cells : List S := [(.ret (.lrg (.cons (.blt .max2 (.cons (.cst (.int 1)) (.cons (.blt .min2 (.cons (.var 1) (.cons (.blt .len (.cons (.var 0) .nil)) .nil))) .nil))) .nil)))]
def d__law_cells : Dp := ⟨"_law_cells", ["script", "most"], ["script", "most"], defArgs (top 43), defBody (top 43), defScope (top 43), b__law_cells⟩
def b__law_frac_common : List S := [(.par 0 1 (.blt .abs (.cons (.var 0) .nil)) (.blt .abs (.cons (.var 1) .nil))), (.wil (.cmp .Gt (.var 1) (.cst (.int 0))) [(.par 0 1 (.var 1) (.bin .Mod (.blt .int (.cons (.var 0) .nil)) (.var 1)))]), (.ret (.var 0))]
def d__law_frac_common : Dp := ⟨"_law_frac_common", ["one", "other"], ["one", "other"], defArgs (top 45), defBody (top 45), defScope (top 45), b__law_frac_common⟩
def b__law_frac : List S := [(.set 2 (.cal "_law_frac_common" (.cons (.var 0) (.cons (.var 1) .nil)))), (.set 2 (.ife (.cmp .Gt (.var 1) (.cst (.int 0))) (.var 2) (.neg (.var 2)))), (.ret (.tup (.cons (.bin .FloorDiv (.var 0) (.var 2)) (.cons (.bin .FloorDiv (.var 1) (.var 2)) .nil))))]
def d__law_frac : Dp := ⟨"_law_frac", ["top", "bottom", "by"], ["top", "bottom"], defArgs (top 46), defBody (top 46), defScope (top 46), b__law_frac⟩
def b__law_frac_plus : List S := [(.ret (.cal "_law_frac" (.cons (.bin .Add (.bin .Mult (.idx (.var 0) (.cst (.int 0))) (.idx (.var 1) (.cst (.int 1)))) (.bin .Mult (.idx (.var 1) (.cst (.int 0))) (.idx (.var 0) (.cst (.int 1))))) (.cons (.bin .Mult (.idx (.var 0) (.cst (.int 1))) (.idx (.var 1) (.cst (.int 1)))) .nil))))]
def d__law_frac_plus : Dp := ⟨"_law_frac_plus", ["one", "other"], ["one", "other"], defArgs (top 47), defBody (top 47), defScope (top 47), b__law_frac_plus⟩
def b__law_frac_times : List S := [(.ret (.cal "_law_frac" (.cons (.bin .Mult (.idx (.var 0) (.cst (.int 0))) (.idx (.var 1) (.cst (.int 0)))) (.cons (.bin .Mult (.idx (.var 0) (.cst (.int 1))) (.idx (.var 1) (.cst (.int 1)))) .nil))))]
def d__law_frac_times : Dp := ⟨"_law_frac_times", ["one", "other"], ["one", "other"], defArgs (top 48), defBody (top 48), defScope (top 48), b__law_frac_times⟩
def b__law_point_own : List S := [(.ret (.tup (.cons (.cal "_law_frac" (.cons (.idx (.var 0) (.cst (.int 0))) (.cons (.idx (.var 0) (.cst (.int 2))) .nil))) (.cons (.cal "_law_frac" (.cons (.idx (.var 0) (.cst (.int 1))) (.cons (.idx (.var 0) (.cst (.int 2))) .nil))) .nil))))]
def d__law_point_own : Dp := ⟨"_law_point_own", ["told"], ["told"], defArgs (top 49), defBody (top 49), defScope (top 49), b__law_point_own⟩
def b__law_point_told : List S := [(.tgt (.tp [(.tp [(.nm 2), (.nm 3)]), (.tp [(.nm 4), (.nm 5)])]) (.var 0)), (.set 1 (.cal "_law_frac_common" (.cons (.var 3) (.cons (.var 5) .nil)))), (.ret (.tup (.cons (.bin .Mult (.var 2) (.bin .FloorDiv (.var 5) (.var 1))) (.cons (.bin .Mult (.var 4) (.bin .FloorDiv (.var 3) (.var 1))) (.cons (.bin .Mult (.bin .FloorDiv (.var 3) (.var 1)) (.var 5)) .nil)))))]
def d__law_point_told : Dp := ⟨"_law_point_told", ["point", "by", "x", "low", "y", "high"], ["point"], defArgs (top 50), defBody (top 50), defScope (top 50), b__law_point_told⟩
def b__law_leader : List S := [(.set 1 (.tup (.cons (.cal "_law_frac" (.cons (.bin .Sub (.cal "_law_take" (.cons (.var 0) (.cons (.cst (.int 13)) .nil))) (.cst (.int 6))) (.cons (.cal "_law_of" (.cons (.var 0) (.cons (.lst (.cons (.cst (.int 1)) (.cons (.cst (.int 1)) (.cons (.cst (.int 3)) .nil)))) .nil))) .nil))) (.cons (.cal "_law_frac" (.cons (.bin .Sub (.cal "_law_take" (.cons (.var 0) (.cons (.cst (.int 13)) .nil))) (.cst (.int 6))) (.cons (.cst (.int 1)) .nil))) .nil)))), (.set 2 (.cal "_law_of" (.cons (.var 0) (.cons (.lst (.cons (.tup (.cons (.cst (.int 1)) (.cons (.cst (.int 1)) .nil))) (.cons (.tup (.cons (.cst (.int 2)) (.cons (.cst (.int 1)) .nil))) (.cons (.tup (.cons (.cst (.int 1)) (.cons (.cst (.int 2)) .nil))) (.cons (.tup (.cons (.cst (.int 7)) (.cons (.cst (.int 3)) .nil))) (.cons (.tup (.cons (.cst (.int 1000)) (.cons (.cst (.int 1)) .nil))) (.cons (.tup (.cons (.bin .Pow (.cst (.int 10)) (.cst (.int 10))) (.cons (.cst (.int 1)) .nil))) .nil))))))) .nil)))), (.ret (.tup (.cons (.cal "_law_of" (.cons (.var 0) (.cons (.lst (.cons (.cst (.str "stay")) (.cons (.cst (.str "turned")) (.cons (.cst (.str "mirrored")) (.cons (.cst (.str "back")) .nil))))) .nil))) (.cons (.var 1) (.cons (.var 2) .nil)))))]
def d__law_leader : Dp := ⟨"_law_leader", ["pot", "way", "factor"], ["pot"], defArgs (top 51), defBody (top 51), defScope (top 51), b__law_leader⟩
def b__law_led_point : List S := [(.tgt (.tp [(.nm 2), (.nm 3), (.nm 4)]) (.var 0)), (.tgt (.tp [(.nm 5), (.nm 6)]) (.var 1)), (.ife (.cmp .Eq (.var 2) (.cst (.str "turned"))) [(.par 5 6 (.cal "_law_frac_times" (.cons (.tup (.cons (.neg (.cst (.int 1))) (.cons (.cst (.int 1)) .nil))) (.cons (.var 6) .nil))) (.var 5))] [(.ife (.cmp .Eq (.var 2) (.cst (.str "mirrored"))) [(.set 5 (.cal "_law_frac_times" (.cons (.tup (.cons (.neg (.cst (.int 1))) (.cons (.cst (.int 1)) .nil))) (.cons (.var 5) .nil))))] [(.ife (.cmp .Eq (.var 2) (.cst (.str "back"))) [(.par 5 6 (.cal "_law_frac_times" (.cons (.tup (.cons (.neg (.cst (.int 1))) (.cons (.cst (.int 1)) .nil))) (.cons (.var 5) .nil))) (.cal "_law_frac_times" (.cons (.tup (.cons (.neg (.cst (.int 1))) (.cons (.cst (.int 1)) .nil))) (.cons (.var 6) .nil))))] [])])]), (.ret (.tup (.cons (.cal "_law_frac_plus" (.cons (.cal "_law_frac_times" (.cons (.var 4) (.cons (.var 5) .nil))) (.cons (.idx (.var 3) (.cst (.int 0))) .nil))) (.cons (.cal "_law_frac_plus" (.cons (.cal "_law_frac_times" (.cons (.var 4) (.cons (.var 6) .nil))) (.cons (.idx (.var 3) (.cst (.int 1))) .nil))) .nil))))]
def d__law_led_point : Dp := ⟨"_law_led_point", ["leader", "point", "word", "way", "factor", "x", "y"], ["leader", "point"], defArgs (top 52), defBody (top 52), defScope (top 52), b__law_led_point⟩
def b__law_small_point : List S := [(.set 1 (.cal "_law_of" (.cons (.var 0) (.cons (.lst (.cons (.cst (.int 1)) (.cons (.cst (.int 1)) (.cons (.cst (.int 2)) (.cons (.cst (.int 5)) .nil))))) .nil)))), (.ret (.tup (.cons (.cal "_law_frac" (.cons (.bin .Sub (.cal "_law_take" (.cons (.var 0) (.cons (.cst (.int 9)) .nil))) (.cst (.int 4))) (.cons (.var 1) .nil))) (.cons (.cal "_law_frac" (.cons (.bin .Sub (.cal "_law_take" (.cons (.var 0) (.cons (.cst (.int 9)) .nil))) (.cst (.int 4))) (.cons (.cst (.int 1)) .nil))) .nil))))]
def d__law_small_point : Dp := ⟨"_law_small_point", ["pot", "bottom"], ["pot"], defArgs (top 53), defBody (top 53), defScope (top 53), b__law_small_point⟩
def b__law_told : List S := [(.ret (.lcm (.nm 2) (.seq (.var 1)) .none (.cal "_law_point_told" (.cons (.cal "_law_led_point" (.cons (.var 0) (.cons (.var 2) .nil))) .nil)) [("point", 2)]))]
def d__law_told : Dp := ⟨"_law_told", ["leader", "points", "point"], ["leader", "points"], defArgs (top 54), defBody (top 54), defScope (top 54), b__law_told⟩
def b__law_led_told : List S := [(.ret (.cal "_law_point_told" (.cons (.cal "_law_led_point" (.cons (.var 0) (.cons (.cal "_law_point_own" (.cons (.var 1) .nil)) .nil))) .nil)))]
def d__law_led_told : Dp := ⟨"_law_led_told", ["leader", "value"], ["leader", "value"], defArgs (top 55), defBody (top 55), defScope (top 55), b__law_led_told⟩
def b__law_inside : List S := [(.tgt (.tp [(.nm 2), (.nm 3)]) (.hrd ["FenceError", "BadPoint", "BadShare", "Same", "BadRing", "OnLine"] (.cal "inside" (.cons (.blt .tuple (.cons (.var 0) .nil)) (.cons (.var 1) .nil))))), (.ife (.isN false (.var 2)) [(.ret (.tup (.cons (.cst (.bl false)) (.cons (.var 3) .nil))))] []), (.ret (.ife (.isE ["FenceError", "BadPoint", "BadShare", "Same", "BadRing", "OnLine"] (.var 2) "OnLine" false) (.tup (.cons (.cst (.bl true)) (.cons (.cst .non) .nil))) (.cst .non)))]
def d__law_inside : Dp := ⟨"_law_inside", ["points", "spot", "caught", "back"], ["points", "spot"], defArgs (top 56), defBody (top 56), defScope (top 56), b__law_inside⟩
def b__law_right : List S := [(.tgt (.tp [(.nm 7), (.nm 8)]) (.tup (.cons (.cal "_law_leader" (.cons (.var 0) .nil)) (.cons (.lcm (.nm 12) (.rng1 (.cst (.int 4))) .none (.cal "_law_small_point" (.cons (.var 0) .nil)) [("lap", 12)]) .nil)))), (.par 9 10 (.lcm (.nm 13) (.seq (.var 8)) .none (.cal "_law_point_told" (.cons (.var 13) .nil)) [("point", 13)]) (.cal "_law_told" (.cons (.var 7) (.cons (.var 8) .nil)))), (.set 1 (.ife (.cmp .Eq (.idx (.var 7) (.cst (.int 0))) (.cst (.str "mirrored"))) (.neg (.cst (.int 1))) (.cst (.int 1)))), (.ife (.cmp .NotEq (.rpr (.cal "side" (.cons (.idx (.var 10) (.cst (.int 0))) (.cons (.idx (.var 10) (.cst (.int 1))) (.cons (.idx (.var 10) (.cst (.int 2))) .nil))))) (.rpr (.bin .Mult (.var 1) (.cal "side" (.cons (.idx (.var 9) (.cst (.int 0))) (.cons (.idx (.var 9) (.cst (.int 1))) (.cons (.idx (.var 9) (.cst (.int 2))) .nil))))))) [(.ret (.cst (.bl false)))] []), (.set 2 (.cal "_law_frac" (.cons (.cal "_law_take" (.cons (.var 0) (.cons (.cst (.int 6)) .nil))) (.cons (.cst (.int 5)) .nil)))), (.ife (.cmp .NotEq (.rpr (.cal "between" (.cons (.idx (.var 10) (.cst (.int 0))) (.cons (.idx (.var 10) (.cst (.int 1))) (.cons (.var 2) .nil))))) (.rpr (.cal "_law_led_told" (.cons (.var 7) (.cons (.cal "between" (.cons (.idx (.var 9) (.cst (.int 0))) (.cons (.idx (.var 9) (.cst (.int 1))) (.cons (.var 2) .nil)))) .nil))))) [(.ret (.cst (.bl false)))] []), (.ife (.and (.cmp .NotEq (.idx (.var 8) (.cst (.int 0))) (.idx (.var 8) (.cst (.int 1)))) (.cmp .NotEq (.idx (.var 8) (.cst (.int 2))) (.idx (.var 8) (.cst (.int 3))))) [(.par 5 6 (.cal "meet" (.cons (.idx (.var 9) (.cst (.int 0))) (.cons (.idx (.var 9) (.cst (.int 1))) (.cons (.idx (.var 9) (.cst (.int 2))) (.cons (.idx (.var 9) (.cst (.int 3))) .nil))))) (.cal "meet" (.cons (.idx (.var 10) (.cst (.int 0))) (.cons (.idx (.var 10) (.cst (.int 1))) (.cons (.idx (.var 10) (.cst (.int 2))) (.cons (.idx (.var 10) (.cst (.int 3))) .nil)))))), (.set 11 (.ife (.cmp .Eq (.blt .len (.cons (.var 5) .nil)) (.cst (.int 1))) (.var 5) (.tup (.cons (.idx (.var 5) (.cst (.int 0))) (.cons (.cal "_law_led_told" (.cons (.var 7) (.cons (.idx (.var 5) (.cst (.int 1))) .nil))) .nil))))), (.ife (.cmp .NotEq (.rpr (.var 6)) (.rpr (.var 11))) [(.ret (.cst (.bl false)))] [])] []), (.set 3 (.lcm (.nm 14) (.rng1 (.cst (.int 4))) (.some (.cmp .NotEq (.idx (.var 8) (.var 14)) (.idx (.var 8) (.bin .Sub (.var 14) (.cst (.int 1)))))) (.idx (.var 8) (.var 14)) [("at", 14)])), (.ife (.or (.cmp .Lt (.blt .len (.cons (.var 3) .nil)) (.cst (.int 3))) (.blt .any (.cons (.lcm (.nm 14) (.rng1 (.blt .len (.cons (.var 3) .nil))) .none (.cmp .Eq (.idx (.var 3) (.var 14)) (.idx (.var 3) (.bin .Sub (.var 14) (.cst (.int 1))))) [("at", 14)]) .nil))) [(.ret (.cst (.bl true)))] []), (.set 4 (.cal "_law_small_point" (.cons (.var 0) .nil))), (.set 5 (.cal "_law_inside" (.cons (.lcm (.nm 13) (.seq (.var 3)) .none (.cal "_law_point_told" (.cons (.var 13) .nil)) [("point", 13)]) (.cons (.cal "_law_point_told" (.cons (.var 4) .nil)) .nil)))), (.set 6 (.cal "_law_inside" (.cons (.cal "_law_told" (.cons (.var 7) (.cons (.var 3) .nil))) (.cons (.idx (.cal "_law_told" (.cons (.var 7) (.cons (.lst (.cons (.var 4) .nil)) .nil))) (.cst (.int 0))) .nil)))), (.ret (.and (.isN true (.var 5)) (.cmp .Eq (.rpr (.var 5)) (.rpr (.var 6)))))]
def d__law_right : Dp := ⟨"_law_right", ["pot", "sign", "share", "line", "spot", "mine", "its", "leader", "own", "here", "there", "due", "lap", "point", "at"], ["pot"], defArgs (top 57), defBody (top 57), defScope (top 57), b__law_right⟩
def b_law : List S := [(.ret (.blt .all (.cons (.lcm (.nm 1) (.seq (.cal "_law_cells" (.cons (.var 0) (.cons (.cst (.int 2)) .nil)))) .none (.cal "_law_right" (.cons (.cal "_law_pot" (.cons (.var 0) (.cons (.var 1) .nil))) .nil)) [("place", 1)]) .nil)))]
def d_law : Dp := ⟨"law", ["script", "place"], ["script"], defArgs (top 58), defBody (top 58), defScope (top 58), b_law⟩
def gi : Gi := { fns := (["is_whole", "is_tuple", "common", "is_fraction", "is_share", "is_point", "point_at", "is_ahead", "check_points", "is_closed_line", "line_through", "line_side", "lies_on", "is_out", "overlap_of", "crossing_of", "is_over", "is_odd_about", "side", "meet", "between", "inside", "_law_pot", "_law_take", "_law_of", "_law_cells", "_law_frac_common", "_law_frac", "_law_frac_plus", "_law_frac_times", "_law_point_own", "_law_point_told", "_law_leader", "_law_led_point", "_law_small_point", "_law_told", "_law_led_told", "_law_inside", "_law_right", "law"] : List String).map Str.ofString, con := [("NONE", (.str "none")), ("TOUCH", (.str "touch")), ("CROSS", (.str "cross")), ("TRIPLE_points", (.int 3)), ("PAIR", (.int 2)), ("ALONG", (.str "along")), ("TRIPLE_plane", (.int 3))], fre := ["abs", "all", "any", "bool", "int", "isinstance", "len", "list", "max", "min", "range", "repr", "sum", "tuple", "zip"], ers := ["FenceError", "BadPoint", "BadShare", "Same", "BadRing", "OnLine"], hrd := true }
def iDef : Stmt := match top 8 with | .ClassDef _ _ _ (d :: _) _ _ _ _ _ _ _ => d | s => s
def d__law_heard : Dp := ⟨"_law_heard", NH, ["call"], defArgs (top 44), defBody (top 44), defScope (top 44), []⟩
def tx : Tx := ⟨defArgs iDef, defBody iDef, defScope iDef, some d__law_heard⟩
def Pd : List Dp := [d_is_whole, d_is_tuple, d_common, d_is_fraction, d_is_share, d_is_point, d_point_at, d_is_ahead, d_check_points, d_is_closed_line, d_line_through, d_line_side, d_lies_on, d_is_out, d_overlap_of, d_crossing_of, d_is_over, d_is_odd_about, d_side, d_meet, d_between, d_inside, d__law_pot, d__law_take, d__law_of, d__law_cells, d__law_frac_common, d__law_frac, d__law_frac_plus, d__law_frac_times, d__law_point_own, d__law_point_told, d__law_leader, d__law_led_point, d__law_small_point, d__law_told, d__law_led_told, d__law_inside, d__law_right, d_law]
theorem ok_is_whole : d_is_whole.ok gi = true := by decide +kernel
theorem bd_is_whole : d_is_whole.Bd := fun _ _ _ _ _ _ us hl => match us, hl with | [_], _ => rfl
theorem ok_is_tuple : d_is_tuple.ok gi = true := by decide +kernel
theorem bd_is_tuple : d_is_tuple.Bd := fun _ _ _ _ _ _ us hl => match us, hl with | [_, _, _], _ => rfl
theorem ok_common : d_common.ok gi = true := by decide +kernel
theorem bd_common : d_common.Bd := fun _ _ _ _ _ _ us hl => match us, hl with | [_, _], _ => rfl
theorem ok_is_fraction : d_is_fraction.ok gi = true := by decide +kernel
theorem bd_is_fraction : d_is_fraction.Bd := fun _ _ _ _ _ _ us hl => match us, hl with | [_], _ => rfl
theorem ok_is_share : d_is_share.ok gi = true := by decide +kernel
theorem bd_is_share : d_is_share.Bd := fun _ _ _ _ _ _ us hl => match us, hl with | [_], _ => rfl
theorem ok_is_point : d_is_point.ok gi = true := by decide +kernel
theorem bd_is_point : d_is_point.Bd := fun _ _ _ _ _ _ us hl => match us, hl with | [_], _ => rfl
theorem ok_point_at : d_point_at.ok gi = true := by decide +kernel
theorem bd_point_at : d_point_at.Bd := fun _ _ _ _ _ _ us hl => match us, hl with | [_, _, _], _ => rfl
theorem ok_is_ahead : d_is_ahead.ok gi = true := by decide +kernel
theorem bd_is_ahead : d_is_ahead.Bd := fun _ _ _ _ _ _ us hl => match us, hl with | [_, _], _ => rfl
theorem ok_check_points : d_check_points.ok gi = true := by decide +kernel
theorem bd_check_points : d_check_points.Bd := fun _ _ _ _ _ _ us hl => match us, hl with | [_], _ => rfl
theorem ok_is_closed_line : d_is_closed_line.ok gi = true := by decide +kernel
theorem bd_is_closed_line : d_is_closed_line.Bd := fun _ _ _ _ _ _ us hl => match us, hl with | [_], _ => rfl
theorem ok_line_through : d_line_through.ok gi = true := by decide +kernel
theorem bd_line_through : d_line_through.Bd := fun _ _ _ _ _ _ us hl => match us, hl with | [_, _], _ => rfl
theorem ok_line_side : d_line_side.ok gi = true := by decide +kernel
theorem bd_line_side : d_line_side.Bd := fun _ _ _ _ _ _ us hl => match us, hl with | [_, _, _], _ => rfl
theorem ok_lies_on : d_lies_on.ok gi = true := by decide +kernel
theorem bd_lies_on : d_lies_on.Bd := fun _ _ _ _ _ _ us hl => match us, hl with | [_, _, _], _ => rfl
theorem ok_is_out : d_is_out.ok gi = true := by decide +kernel
theorem bd_is_out : d_is_out.Bd := fun _ _ _ _ _ _ us hl => match us, hl with | [_, _, _], _ => rfl
theorem ok_overlap_of : d_overlap_of.ok gi = true := by decide +kernel
theorem bd_overlap_of : d_overlap_of.Bd := fun _ _ _ _ _ _ us hl => match us, hl with | [_, _, _, _], _ => rfl
theorem ok_crossing_of : d_crossing_of.ok gi = true := by decide +kernel
theorem bd_crossing_of : d_crossing_of.Bd := fun _ _ _ _ _ _ us hl => match us, hl with | [_, _, _, _], _ => rfl
theorem ok_is_over : d_is_over.ok gi = true := by decide +kernel
theorem bd_is_over : d_is_over.Bd := fun _ _ _ _ _ _ us hl => match us, hl with | [_, _, _], _ => rfl
theorem ok_is_odd_about : d_is_odd_about.ok gi = true := by decide +kernel
theorem bd_is_odd_about : d_is_odd_about.Bd := fun _ _ _ _ _ _ us hl => match us, hl with | [_, _], _ => rfl
theorem ok_side : d_side.ok gi = true := by decide +kernel
theorem bd_side : d_side.Bd := fun _ _ _ _ _ _ us hl => match us, hl with | [_, _, _], _ => rfl
theorem ok_meet : d_meet.ok gi = true := by decide +kernel
theorem bd_meet : d_meet.Bd := fun _ _ _ _ _ _ us hl => match us, hl with | [_, _, _, _], _ => rfl
theorem ok_between : d_between.ok gi = true := by decide +kernel
theorem bd_between : d_between.Bd := fun _ _ _ _ _ _ us hl => match us, hl with | [_, _, _], _ => rfl
theorem ok_inside : d_inside.ok gi = true := by decide +kernel
theorem bd_inside : d_inside.Bd := fun _ _ _ _ _ _ us hl => match us, hl with | [_, _], _ => rfl
theorem ok__law_pot : d__law_pot.ok gi = true := by decide +kernel
theorem bd__law_pot : d__law_pot.Bd := fun _ _ _ _ _ _ us hl => match us, hl with | [_, _], _ => rfl
theorem ok__law_take : d__law_take.ok gi = true := by decide +kernel
theorem bd__law_take : d__law_take.Bd := fun _ _ _ _ _ _ us hl => match us, hl with | [_, _], _ => rfl
theorem ok__law_of : d__law_of.ok gi = true := by decide +kernel
theorem bd__law_of : d__law_of.Bd := fun _ _ _ _ _ _ us hl => match us, hl with | [_, _], _ => rfl
theorem ok__law_cells : d__law_cells.ok gi = true := by decide +kernel
theorem bd__law_cells : d__law_cells.Bd := fun _ _ _ _ _ _ us hl => match us, hl with | [_, _], _ => rfl
theorem ok__law_frac_common : d__law_frac_common.ok gi = true := by decide +kernel
theorem bd__law_frac_common : d__law_frac_common.Bd := fun _ _ _ _ _ _ us hl => match us, hl with | [_, _], _ => rfl
theorem ok__law_frac : d__law_frac.ok gi = true := by decide +kernel
theorem bd__law_frac : d__law_frac.Bd := fun _ _ _ _ _ _ us hl => match us, hl with | [_, _], _ => rfl
theorem ok__law_frac_plus : d__law_frac_plus.ok gi = true := by decide +kernel
theorem bd__law_frac_plus : d__law_frac_plus.Bd := fun _ _ _ _ _ _ us hl => match us, hl with | [_, _], _ => rfl
theorem ok__law_frac_times : d__law_frac_times.ok gi = true := by decide +kernel
theorem bd__law_frac_times : d__law_frac_times.Bd := fun _ _ _ _ _ _ us hl => match us, hl with | [_, _], _ => rfl
theorem ok__law_point_own : d__law_point_own.ok gi = true := by decide +kernel
theorem bd__law_point_own : d__law_point_own.Bd := fun _ _ _ _ _ _ us hl => match us, hl with | [_], _ => rfl
theorem ok__law_point_told : d__law_point_told.ok gi = true := by decide +kernel
theorem bd__law_point_told : d__law_point_told.Bd := fun _ _ _ _ _ _ us hl => match us, hl with | [_], _ => rfl
theorem ok__law_leader : d__law_leader.ok gi = true := by decide +kernel
theorem bd__law_leader : d__law_leader.Bd := fun _ _ _ _ _ _ us hl => match us, hl with | [_], _ => rfl
theorem ok__law_led_point : d__law_led_point.ok gi = true := by decide +kernel
theorem bd__law_led_point : d__law_led_point.Bd := fun _ _ _ _ _ _ us hl => match us, hl with | [_, _], _ => rfl
theorem ok__law_small_point : d__law_small_point.ok gi = true := by decide +kernel
theorem bd__law_small_point : d__law_small_point.Bd := fun _ _ _ _ _ _ us hl => match us, hl with | [_], _ => rfl
theorem ok__law_told : d__law_told.ok gi = true := by decide +kernel
theorem bd__law_told : d__law_told.Bd := fun _ _ _ _ _ _ us hl => match us, hl with | [_, _], _ => rfl
theorem ok__law_led_told : d__law_led_told.ok gi = true := by decide +kernel
theorem bd__law_led_told : d__law_led_told.Bd := fun _ _ _ _ _ _ us hl => match us, hl with | [_, _], _ => rfl
theorem ok__law_inside : d__law_inside.ok gi = true := by decide +kernel
theorem bd__law_inside : d__law_inside.Bd := fun _ _ _ _ _ _ us hl => match us, hl with | [_, _], _ => rfl
theorem ok__law_right : d__law_right.ok gi = true := by decide +kernel
theorem bd__law_right : d__law_right.Bd := fun _ _ _ _ _ _ us hl => match us, hl with | [_], _ => rfl
theorem ok_law : d_law.ok gi = true := by decide +kernel
theorem bd_law : d_law.Bd := fun _ _ _ _ _ _ us hl => match us, hl with | [_], _ => rfl
theorem nd_all : (Pd.map (·.name)).Nodup := by decide +kernel
theorem gi_all : gi.fns = Pd.map (·.name) := by decide +kernel
theorem con_all : gi.con.all conOk = true := by decide +kernel
noncomputable def CN (n : Nat) (x : Str) (ds : List D) (μ : Sto) : Out D := callN (Pd.map Dp.df) WF n x ds μ
theorem cn_step {d : Dp} (h : d ∈ Pd) (n : Nat) (ds : List D) (μ : Sto) : CN (n + 1) d.name ds μ = runDf ⟨WF, CN n⟩ d.df ds μ := callN_step nd_all h n ds μ
theorem st_is_whole (n : Nat) (a0 : D) (μ : Sto) : CN (n + 1) "is_whole" [a0] μ = cutS μ (endD (exSs ⟨WF, CN n⟩ b_is_whole [some a0] μ)) := (cn_step (d := d_is_whole) (by unfold Pd; simp) n [a0] μ).trans rfl
theorem st_is_tuple (n : Nat) (a0 a1 a2 : D) (μ : Sto) : CN (n + 1) "is_tuple" [a0, a1, a2] μ = cutS μ (endD (exSs ⟨WF, CN n⟩ b_is_tuple [some a0, some a1, some a2] μ)) := (cn_step (d := d_is_tuple) (by unfold Pd; simp) n [a0, a1, a2] μ).trans rfl
theorem st_common (n : Nat) (a0 a1 : D) (μ : Sto) : CN (n + 1) "common" [a0, a1] μ = cutS μ (endD (exSs ⟨WF, CN n⟩ b_common [some a0, some a1] μ)) := (cn_step (d := d_common) (by unfold Pd; simp) n [a0, a1] μ).trans rfl
theorem st_is_fraction (n : Nat) (a0 : D) (μ : Sto) : CN (n + 1) "is_fraction" [a0] μ = cutS μ (endD (exSs ⟨WF, CN n⟩ b_is_fraction [some a0] μ)) := (cn_step (d := d_is_fraction) (by unfold Pd; simp) n [a0] μ).trans rfl
theorem st_is_share (n : Nat) (a0 : D) (μ : Sto) : CN (n + 1) "is_share" [a0] μ = cutS μ (endD (exSs ⟨WF, CN n⟩ b_is_share [some a0] μ)) := (cn_step (d := d_is_share) (by unfold Pd; simp) n [a0] μ).trans rfl
theorem st_is_point (n : Nat) (a0 : D) (μ : Sto) : CN (n + 1) "is_point" [a0] μ = cutS μ (endD (exSs ⟨WF, CN n⟩ b_is_point [some a0, none] μ)) := (cn_step (d := d_is_point) (by unfold Pd; simp) n [a0] μ).trans rfl
theorem st_point_at (n : Nat) (a0 a1 a2 : D) (μ : Sto) : CN (n + 1) "point_at" [a0, a1, a2] μ = cutS μ (endD (exSs ⟨WF, CN n⟩ b_point_at [some a0, some a1, some a2, none] μ)) := (cn_step (d := d_point_at) (by unfold Pd; simp) n [a0, a1, a2] μ).trans rfl
theorem st_is_ahead (n : Nat) (a0 a1 : D) (μ : Sto) : CN (n + 1) "is_ahead" [a0, a1] μ = cutS μ (endD (exSs ⟨WF, CN n⟩ b_is_ahead [some a0, some a1, none, none] μ)) := (cn_step (d := d_is_ahead) (by unfold Pd; simp) n [a0, a1] μ).trans rfl
theorem st_check_points (n : Nat) (a0 : D) (μ : Sto) : CN (n + 1) "check_points" [a0] μ = cutS μ (endD (exSs ⟨WF, CN n⟩ b_check_points [some a0, none] μ)) := (cn_step (d := d_check_points) (by unfold Pd; simp) n [a0] μ).trans rfl
theorem st_is_closed_line (n : Nat) (a0 : D) (μ : Sto) : CN (n + 1) "is_closed_line" [a0] μ = cutS μ (endD (exSs ⟨WF, CN n⟩ b_is_closed_line [some a0, none, none] μ)) := (cn_step (d := d_is_closed_line) (by unfold Pd; simp) n [a0] μ).trans rfl
theorem st_line_through (n : Nat) (a0 a1 : D) (μ : Sto) : CN (n + 1) "line_through" [a0, a1] μ = cutS μ (endD (exSs ⟨WF, CN n⟩ b_line_through [some a0, some a1, none, none, none, none, none, none] μ)) := (cn_step (d := d_line_through) (by unfold Pd; simp) n [a0, a1] μ).trans rfl
theorem st_line_side (n : Nat) (a0 a1 a2 : D) (μ : Sto) : CN (n + 1) "line_side" [a0, a1, a2] μ = cutS μ (endD (exSs ⟨WF, CN n⟩ b_line_side [some a0, some a1, some a2, none, none, none, none] μ)) := (cn_step (d := d_line_side) (by unfold Pd; simp) n [a0, a1, a2] μ).trans rfl
theorem st_lies_on (n : Nat) (a0 a1 a2 : D) (μ : Sto) : CN (n + 1) "lies_on" [a0, a1, a2] μ = cutS μ (endD (exSs ⟨WF, CN n⟩ b_lies_on [some a0, some a1, some a2] μ)) := (cn_step (d := d_lies_on) (by unfold Pd; simp) n [a0, a1, a2] μ).trans rfl
theorem st_is_out (n : Nat) (a0 a1 a2 : D) (μ : Sto) : CN (n + 1) "is_out" [a0, a1, a2] μ = cutS μ (endD (exSs ⟨WF, CN n⟩ b_is_out [some a0, some a1, some a2, none, none] μ)) := (cn_step (d := d_is_out) (by unfold Pd; simp) n [a0, a1, a2] μ).trans rfl
theorem st_overlap_of (n : Nat) (a0 a1 a2 a3 : D) (μ : Sto) : CN (n + 1) "overlap_of" [a0, a1, a2, a3] μ = cutS μ (endD (exSs ⟨WF, CN n⟩ b_overlap_of [some a0, some a1, some a2, some a3, none, none, none, none] μ)) := (cn_step (d := d_overlap_of) (by unfold Pd; simp) n [a0, a1, a2, a3] μ).trans rfl
theorem st_crossing_of (n : Nat) (a0 a1 a2 a3 : D) (μ : Sto) : CN (n + 1) "crossing_of" [a0, a1, a2, a3] μ = cutS μ (endD (exSs ⟨WF, CN n⟩ b_crossing_of [some a0, some a1, some a2, some a3, none, none, none, none, none, none, none] μ)) := (cn_step (d := d_crossing_of) (by unfold Pd; simp) n [a0, a1, a2, a3] μ).trans rfl
theorem st_is_over (n : Nat) (a0 a1 a2 : D) (μ : Sto) : CN (n + 1) "is_over" [a0, a1, a2] μ = cutS μ (endD (exSs ⟨WF, CN n⟩ b_is_over [some a0, some a1, some a2, none, none, none] μ)) := (cn_step (d := d_is_over) (by unfold Pd; simp) n [a0, a1, a2] μ).trans rfl
theorem st_is_odd_about (n : Nat) (a0 a1 : D) (μ : Sto) : CN (n + 1) "is_odd_about" [a0, a1] μ = cutS μ (endD (exSs ⟨WF, CN n⟩ b_is_odd_about [some a0, some a1, none, none, none] μ)) := (cn_step (d := d_is_odd_about) (by unfold Pd; simp) n [a0, a1] μ).trans rfl
theorem st_side (n : Nat) (a0 a1 a2 : D) (μ : Sto) : CN (n + 1) "side" [a0, a1, a2] μ = cutS μ (endD (exSs ⟨WF, CN n⟩ b_side [some a0, some a1, some a2] μ)) := (cn_step (d := d_side) (by unfold Pd; simp) n [a0, a1, a2] μ).trans rfl
theorem st_meet (n : Nat) (a0 a1 a2 a3 : D) (μ : Sto) : CN (n + 1) "meet" [a0, a1, a2, a3] μ = cutS μ (endD (exSs ⟨WF, CN n⟩ b_meet [some a0, some a1, some a2, some a3, none] μ)) := (cn_step (d := d_meet) (by unfold Pd; simp) n [a0, a1, a2, a3] μ).trans rfl
theorem st_between (n : Nat) (a0 a1 a2 : D) (μ : Sto) : CN (n + 1) "between" [a0, a1, a2] μ = cutS μ (endD (exSs ⟨WF, CN n⟩ b_between [some a0, some a1, some a2, none, none, none, none, none, none] μ)) := (cn_step (d := d_between) (by unfold Pd; simp) n [a0, a1, a2] μ).trans rfl
theorem st_inside (n : Nat) (a0 a1 : D) (μ : Sto) : CN (n + 1) "inside" [a0, a1] μ = cutS μ (endD (exSs ⟨WF, CN n⟩ b_inside [some a0, some a1, none, none] μ)) := (cn_step (d := d_inside) (by unfold Pd; simp) n [a0, a1] μ).trans rfl
theorem st__law_pot (n : Nat) (a0 a1 : D) (μ : Sto) : CN (n + 1) "_law_pot" [a0, a1] μ = cutS μ (endD (exSs ⟨WF, CN n⟩ b__law_pot [some a0, some a1, none, none, none] μ)) := (cn_step (d := d__law_pot) (by unfold Pd; simp) n [a0, a1] μ).trans rfl
theorem st__law_take (n : Nat) (a0 a1 : D) (μ : Sto) : CN (n + 1) "_law_take" [a0, a1] μ = cutS μ (endD (exSs ⟨WF, CN n⟩ b__law_take [some a0, some a1, none, none, none] μ)) := (cn_step (d := d__law_take) (by unfold Pd; simp) n [a0, a1] μ).trans rfl
theorem st__law_of (n : Nat) (a0 a1 : D) (μ : Sto) : CN (n + 1) "_law_of" [a0, a1] μ = cutS μ (endD (exSs ⟨WF, CN n⟩ b__law_of [some a0, some a1] μ)) := (cn_step (d := d__law_of) (by unfold Pd; simp) n [a0, a1] μ).trans rfl
theorem st__law_cells (n : Nat) (a0 a1 : D) (μ : Sto) : CN (n + 1) "_law_cells" [a0, a1] μ = cutS μ (endD (exSs ⟨WF, CN n⟩ b__law_cells [some a0, some a1] μ)) := (cn_step (d := d__law_cells) (by unfold Pd; simp) n [a0, a1] μ).trans rfl
theorem st__law_frac_common (n : Nat) (a0 a1 : D) (μ : Sto) : CN (n + 1) "_law_frac_common" [a0, a1] μ = cutS μ (endD (exSs ⟨WF, CN n⟩ b__law_frac_common [some a0, some a1] μ)) := (cn_step (d := d__law_frac_common) (by unfold Pd; simp) n [a0, a1] μ).trans rfl
theorem st__law_frac (n : Nat) (a0 a1 : D) (μ : Sto) : CN (n + 1) "_law_frac" [a0, a1] μ = cutS μ (endD (exSs ⟨WF, CN n⟩ b__law_frac [some a0, some a1, none] μ)) := (cn_step (d := d__law_frac) (by unfold Pd; simp) n [a0, a1] μ).trans rfl
theorem st__law_frac_plus (n : Nat) (a0 a1 : D) (μ : Sto) : CN (n + 1) "_law_frac_plus" [a0, a1] μ = cutS μ (endD (exSs ⟨WF, CN n⟩ b__law_frac_plus [some a0, some a1] μ)) := (cn_step (d := d__law_frac_plus) (by unfold Pd; simp) n [a0, a1] μ).trans rfl
theorem st__law_frac_times (n : Nat) (a0 a1 : D) (μ : Sto) : CN (n + 1) "_law_frac_times" [a0, a1] μ = cutS μ (endD (exSs ⟨WF, CN n⟩ b__law_frac_times [some a0, some a1] μ)) := (cn_step (d := d__law_frac_times) (by unfold Pd; simp) n [a0, a1] μ).trans rfl
theorem st__law_point_own (n : Nat) (a0 : D) (μ : Sto) : CN (n + 1) "_law_point_own" [a0] μ = cutS μ (endD (exSs ⟨WF, CN n⟩ b__law_point_own [some a0] μ)) := (cn_step (d := d__law_point_own) (by unfold Pd; simp) n [a0] μ).trans rfl
theorem st__law_point_told (n : Nat) (a0 : D) (μ : Sto) : CN (n + 1) "_law_point_told" [a0] μ = cutS μ (endD (exSs ⟨WF, CN n⟩ b__law_point_told [some a0, none, none, none, none, none] μ)) := (cn_step (d := d__law_point_told) (by unfold Pd; simp) n [a0] μ).trans rfl
theorem st__law_leader (n : Nat) (a0 : D) (μ : Sto) : CN (n + 1) "_law_leader" [a0] μ = cutS μ (endD (exSs ⟨WF, CN n⟩ b__law_leader [some a0, none, none] μ)) := (cn_step (d := d__law_leader) (by unfold Pd; simp) n [a0] μ).trans rfl
theorem st__law_led_point (n : Nat) (a0 a1 : D) (μ : Sto) : CN (n + 1) "_law_led_point" [a0, a1] μ = cutS μ (endD (exSs ⟨WF, CN n⟩ b__law_led_point [some a0, some a1, none, none, none, none, none] μ)) := (cn_step (d := d__law_led_point) (by unfold Pd; simp) n [a0, a1] μ).trans rfl
theorem st__law_small_point (n : Nat) (a0 : D) (μ : Sto) : CN (n + 1) "_law_small_point" [a0] μ = cutS μ (endD (exSs ⟨WF, CN n⟩ b__law_small_point [some a0, none] μ)) := (cn_step (d := d__law_small_point) (by unfold Pd; simp) n [a0] μ).trans rfl
theorem st__law_told (n : Nat) (a0 a1 : D) (μ : Sto) : CN (n + 1) "_law_told" [a0, a1] μ = cutS μ (endD (exSs ⟨WF, CN n⟩ b__law_told [some a0, some a1, none] μ)) := (cn_step (d := d__law_told) (by unfold Pd; simp) n [a0, a1] μ).trans rfl
theorem st__law_led_told (n : Nat) (a0 a1 : D) (μ : Sto) : CN (n + 1) "_law_led_told" [a0, a1] μ = cutS μ (endD (exSs ⟨WF, CN n⟩ b__law_led_told [some a0, some a1] μ)) := (cn_step (d := d__law_led_told) (by unfold Pd; simp) n [a0, a1] μ).trans rfl
theorem st__law_inside (n : Nat) (a0 a1 : D) (μ : Sto) : CN (n + 1) "_law_inside" [a0, a1] μ = cutS μ (endD (exSs ⟨WF, CN n⟩ b__law_inside [some a0, some a1, none, none] μ)) := (cn_step (d := d__law_inside) (by unfold Pd; simp) n [a0, a1] μ).trans rfl
theorem st__law_right (n : Nat) (a0 : D) (μ : Sto) : CN (n + 1) "_law_right" [a0] μ = cutS μ (endD (exSs ⟨WF, CN n⟩ b__law_right [some a0, none, none, none, none, none, none, none, none, none, none, none, none, none, none] μ)) := (cn_step (d := d__law_right) (by unfold Pd; simp) n [a0] μ).trans rfl
theorem st_law (n : Nat) (a0 : D) (μ : Sto) : CN (n + 1) "law" [a0] μ = cutS μ (endD (exSs ⟨WF, CN n⟩ b_law [some a0, none] μ)) := (cn_step (d := d_law) (by unfold Pd; simp) n [a0] μ).trans rfl
theorem ok_all : ∀ d ∈ Pd, d.ok gi = true := by
  intro d hd
  unfold Pd at hd
  simp only [List.mem_cons, List.not_mem_nil, or_false] at hd
  rcases hd with rfl | rfl | rfl | rfl | rfl | rfl | rfl | rfl | rfl | rfl | rfl | rfl | rfl | rfl | rfl | rfl | rfl | rfl | rfl | rfl | rfl | rfl | rfl | rfl | rfl | rfl | rfl | rfl | rfl | rfl | rfl | rfl | rfl | rfl | rfl | rfl | rfl | rfl | rfl | rfl
  · exact ok_is_whole
  · exact ok_is_tuple
  · exact ok_common
  · exact ok_is_fraction
  · exact ok_is_share
  · exact ok_is_point
  · exact ok_point_at
  · exact ok_is_ahead
  · exact ok_check_points
  · exact ok_is_closed_line
  · exact ok_line_through
  · exact ok_line_side
  · exact ok_lies_on
  · exact ok_is_out
  · exact ok_overlap_of
  · exact ok_crossing_of
  · exact ok_is_over
  · exact ok_is_odd_about
  · exact ok_side
  · exact ok_meet
  · exact ok_between
  · exact ok_inside
  · exact ok__law_pot
  · exact ok__law_take
  · exact ok__law_of
  · exact ok__law_cells
  · exact ok__law_frac_common
  · exact ok__law_frac
  · exact ok__law_frac_plus
  · exact ok__law_frac_times
  · exact ok__law_point_own
  · exact ok__law_point_told
  · exact ok__law_leader
  · exact ok__law_led_point
  · exact ok__law_small_point
  · exact ok__law_told
  · exact ok__law_led_told
  · exact ok__law_inside
  · exact ok__law_right
  · exact ok_law
theorem bd_all : ∀ d ∈ Pd, d.Bd := by
  intro d hd
  unfold Pd at hd
  simp only [List.mem_cons, List.not_mem_nil, or_false] at hd
  rcases hd with rfl | rfl | rfl | rfl | rfl | rfl | rfl | rfl | rfl | rfl | rfl | rfl | rfl | rfl | rfl | rfl | rfl | rfl | rfl | rfl | rfl | rfl | rfl | rfl | rfl | rfl | rfl | rfl | rfl | rfl | rfl | rfl | rfl | rfl | rfl | rfl | rfl | rfl | rfl | rfl
  · exact bd_is_whole
  · exact bd_is_tuple
  · exact bd_common
  · exact bd_is_fraction
  · exact bd_is_share
  · exact bd_is_point
  · exact bd_point_at
  · exact bd_is_ahead
  · exact bd_check_points
  · exact bd_is_closed_line
  · exact bd_line_through
  · exact bd_line_side
  · exact bd_lies_on
  · exact bd_is_out
  · exact bd_overlap_of
  · exact bd_crossing_of
  · exact bd_is_over
  · exact bd_is_odd_about
  · exact bd_side
  · exact bd_meet
  · exact bd_between
  · exact bd_inside
  · exact bd__law_pot
  · exact bd__law_take
  · exact bd__law_of
  · exact bd__law_cells
  · exact bd__law_frac_common
  · exact bd__law_frac
  · exact bd__law_frac_plus
  · exact bd__law_frac_times
  · exact bd__law_point_own
  · exact bd__law_point_told
  · exact bd__law_leader
  · exact bd__law_led_point
  · exact bd__law_small_point
  · exact bd__law_told
  · exact bd__law_led_told
  · exact bd__law_inside
  · exact bd__law_right
  · exact bd_law
-- TF ["_law_inside"]
-- LAWPLACE 58
-- LOOSE ["__name__", "PAIR", "is_whole", "is_tuple", "common", "is_fraction", "is_share", "FenceError", "BadPoint", "BadShare", "Same", "BadRing", "OnLine", "TRIPLE_points", "is_point", "point_at", "is_ahead", "NONE", "CROSS", "TOUCH", "ALONG", "TRIPLE_plane", "check_points", "is_closed_line", "line_through", "line_side", "lies_on", "is_out", "overlap_of", "crossing_of", "is_over", "is_odd_about", "side", "meet", "between", "inside", "_law_pot", "_law_take", "_law_of", "_law_cells", "_law_heard", "_law_frac_common", "_law_frac", "_law_frac_plus", "_law_frac_times", "_law_point_own", "_law_point_told", "_law_leader", "_law_led_point", "_law_small_point", "_law_told", "_law_led_told", "_law_inside", "_law_right"]

theorem tx_ok : tx.Ok PySem.Challenge.rw_ringsorways_k05_whole_the_same_moved_tur.prog := by
  refine ⟨⟨fun n => ([_, _, _, _, _, _, _, _, _, _] : List Pos).getD n default, rfl, rfl⟩, ⟨_, _, rfl, rfl, rfl⟩, ⟨rfl, rfl, rfl, by decide +kernel, rfl, rfl, rfl, rfl⟩, by first | rfl | decide +kernel, ?_⟩
  intro d h
  have e : d__law_heard = d := Option.some.inj h
  subst e
  exact ⟨rfl, rfl, ⟨fun n => ([_, _, _, _, _, _, _, _, _, _, _, _, _, _, _, _, _, _, _, _, _] : List Pos).getD n default, fun n => ([_, _, _] : List Nat).getD n 0, fun n => ([_, _] : List Nat).getD n 0, rfl⟩, scB_ok (by decide +kernel), by decide +kernel, by decide +kernel, fun _ _ _ _ _ _ us hl => match us, hl with | [_], _ => rfl⟩

end Rf


set_option Elab.async false
set_option linter.all false
set_option maxRecDepth 100000
set_option maxHeartbeats 4000000
/-! k05: base -/
namespace Rf
open PySem PySem.Spec PyProof.Rows L2
/-! ### gcd -/
theorem fmod_nat (a b : Nat) : (a : Int).fmod (b : Int) = ((a % b : Nat) : Int) := by
  rw [Int.fmod_eq_emod_of_nonneg _ (Int.natCast_nonneg b)]; rfl
theorem loop_ne (c : Cl) (μ : Sto) : ∀ (m a b : Nat), b < m → whlS (den c (.cmp .NotEq (.var 1) (.cst (.int 0)))).2 (exSs c [.par 0 1 (.var 1) (.bin .Mod (.var 0) (.var 1))]) m [some (.int a), some (.int b)] μ = .ok (.nx [some (.int (a.gcd b : Nat)), some (.int 0)]) μ
  | 0, a, b, h => absurd h (Nat.not_lt_zero _)
  | m + 1, a, b, h => by
    unfold whlS
    by_cases h0 : b = 0
    · subst h0
      simp only [obx, osx, s_rai, fl_ex, if_ex, ec_ex, en_ex, cut_samex, v_hrd, hr_ok, hr_ex, v_isE, t_isE, isE_err, v_fld, fld_err, v_isB, t_isB, isb_b, v_rev, revR, n_isE, or_true, true_or, or_false, false_or, and_true, true_and, and_false, false_and, or_self, and_self, not_false_eq_true, not_true_eq_false, ite_self, lcD_rng, forS_rng, fuel_rng, rng2, rng3, rng4, rngI2, rngI3, rngI4, rng8, rngI8, all0, all1, all2, all3, Bool.and_true, Bool.true_and, Bool.and_false, Bool.false_and, Sto.put_put, ib, ist, ifl, iif, ien, icu, jI, jB, jT, andB, orB, andC, orC, notB, decide_eq_true_eq, cut_same, cut_pp, v_lcm, fuel_itm, lcD_itm, forS_itm, s_for, m_nil, m_cons, mc_some, mc_none, imc, lt_def, yes_def, dt_none, dt_some, w_nil, w_cons, own_nil, own_cons, z_nil, z_nil2, z_cons, e_nil, e_cons, lk0, lk1, lk2, lk3, lk4, ea_nil, ea_cons, ec_nx, ec_ct, ec_bk, ec_rt, iec, List.nil_append, List.cons_append, ob, os, oo, ol, q_cons, q_nil, fl_nx, fl_rt, if_yes, if_no, if_ok, en_rt, en_nx, s_set, s_setLc, s_ret, s_retN, s_dro, s_ife, s_par, s_par3, s_tgt, v_var, v_cst, v_glo, v_tup, v_lst, v_tupS, v_lstS, v_mls, v_bin, v_neg, v_not, t_not, v_cmp, t_cmp, v_chn, t_chn, v_isN, t_isN, v_and, v_or, t_and, t_or, v_ife, t_ife, v_idx, v_slc, v_cal, t_cal, v_blt, t_blt, v_isi, t_isi, t_var, v_lrg, v_rpr, v_frz, n_nil, n_cons, f_nil, f_cons, f_star, o_none, o_some, i_seq, i_rng1, i_rng2, i_zip, i_enu, var_0, var_s, cl_call, bAdd, bSub, cLt, cLe, cGt, cGe, cEq, cNe, cEqR, cNeR, nNeg, tBl, tIn, aAbs, aInt, aIntB, aMin, aMax, aLenT, aLenR, aTupT, aTupR, aLstR, aLstT, lq0, lq1, lq2, lq3, lq4, lq5, lq6, isiI, isiB, isiT, isiL, isiN, isiSt, isii, isib, isitt, idxT, idxR, at20, at21, at2m, at30, at31, at32, at3m, at40, at41, at42, at43, at4m, seqT, seqR, sqT, sqR, asT, asR, zipT, zipR, enuR, n_isN, n_isT, n_isI, n_isL, n_isS, d_bnd, g_nm, g_tp, g_nil, g_cons, Option.map_some, Option.map_none, Option.bind_some, if_true, if_false, Bool.false_eq_true, Bool.not_true, Bool.not_false, List.set_cons_zero, List.set_cons_succ, decide_true, decide_false, reduceCtorEq]
      simp
    · have hb : ((b : Nat) : Int) ≠ 0 := by omega
      have ih2 := loop_ne c μ m b (a % b) (by have := Nat.mod_lt a (Nat.pos_of_ne_zero h0); omega)
      have eg : b.gcd (a % b) = a.gcd b := by rw [Nat.gcd_comm a b, Nat.gcd_rec b a, Nat.gcd_comm]
      rw [eg] at ih2
      simp only [obx, osx, s_rai, fl_ex, if_ex, ec_ex, en_ex, cut_samex, v_hrd, hr_ok, hr_ex, v_isE, t_isE, isE_err, v_fld, fld_err, v_isB, t_isB, isb_b, v_rev, revR, n_isE, or_true, true_or, or_false, false_or, and_true, true_and, and_false, false_and, or_self, and_self, not_false_eq_true, not_true_eq_false, ite_self, lcD_rng, forS_rng, fuel_rng, rng2, rng3, rng4, rngI2, rngI3, rngI4, rng8, rngI8, all0, all1, all2, all3, Bool.and_true, Bool.true_and, Bool.and_false, Bool.false_and, Sto.put_put, ib, ist, ifl, iif, ien, icu, jI, jB, jT, andB, orB, andC, orC, notB, decide_eq_true_eq, cut_same, cut_pp, v_lcm, fuel_itm, lcD_itm, forS_itm, s_for, m_nil, m_cons, mc_some, mc_none, imc, lt_def, yes_def, dt_none, dt_some, w_nil, w_cons, own_nil, own_cons, z_nil, z_nil2, z_cons, e_nil, e_cons, lk0, lk1, lk2, lk3, lk4, ea_nil, ea_cons, ec_nx, ec_ct, ec_bk, ec_rt, iec, List.nil_append, List.cons_append, ob, os, oo, ol, q_cons, q_nil, fl_nx, fl_rt, if_yes, if_no, if_ok, en_rt, en_nx, s_set, s_setLc, s_ret, s_retN, s_dro, s_ife, s_par, s_par3, s_tgt, v_var, v_cst, v_glo, v_tup, v_lst, v_tupS, v_lstS, v_mls, v_bin, v_neg, v_not, t_not, v_cmp, t_cmp, v_chn, t_chn, v_isN, t_isN, v_and, v_or, t_and, t_or, v_ife, t_ife, v_idx, v_slc, v_cal, t_cal, v_blt, t_blt, v_isi, t_isi, t_var, v_lrg, v_rpr, v_frz, n_nil, n_cons, f_nil, f_cons, f_star, o_none, o_some, i_seq, i_rng1, i_rng2, i_zip, i_enu, var_0, var_s, cl_call, bAdd, bSub, cLt, cLe, cGt, cGe, cEq, cNe, cEqR, cNeR, nNeg, tBl, tIn, aAbs, aInt, aIntB, aMin, aMax, aLenT, aLenR, aTupT, aTupR, aLstR, aLstT, lq0, lq1, lq2, lq3, lq4, lq5, lq6, isiI, isiB, isiT, isiL, isiN, isiSt, isii, isib, isitt, idxT, idxR, at20, at21, at2m, at30, at31, at32, at3m, at40, at41, at42, at43, at4m, seqT, seqR, sqT, sqR, asT, asR, zipT, zipR, enuR, n_isN, n_isT, n_isI, n_isL, n_isS, d_bnd, g_nm, g_tp, g_nil, g_cons, Option.map_some, Option.map_none, Option.bind_some, if_true, if_false, Bool.false_eq_true, Bool.not_true, Bool.not_false, List.set_cons_zero, List.set_cons_succ, decide_true, decide_false, reduceCtorEq, bMod hb, hb, fmod_nat, Out.bind, not_false_eq_true]
      exact ih2
theorem loop_gt (c : Cl) (μ : Sto) : ∀ (m a b : Nat), b < m → whlS (den c (.cmp .Gt (.var 1) (.cst (.int 0)))).2 (exSs c [.par 0 1 (.var 1) (.bin .Mod (.blt .int (.cons (.var 0) .nil)) (.var 1))]) m [some (.int a), some (.int b)] μ = .ok (.nx [some (.int (a.gcd b : Nat)), some (.int 0)]) μ
  | 0, a, b, h => absurd h (Nat.not_lt_zero _)
  | m + 1, a, b, h => by
    unfold whlS
    by_cases h0 : b = 0
    · subst h0
      simp only [obx, osx, s_rai, fl_ex, if_ex, ec_ex, en_ex, cut_samex, v_hrd, hr_ok, hr_ex, v_isE, t_isE, isE_err, v_fld, fld_err, v_isB, t_isB, isb_b, v_rev, revR, n_isE, or_true, true_or, or_false, false_or, and_true, true_and, and_false, false_and, or_self, and_self, not_false_eq_true, not_true_eq_false, ite_self, lcD_rng, forS_rng, fuel_rng, rng2, rng3, rng4, rngI2, rngI3, rngI4, rng8, rngI8, all0, all1, all2, all3, Bool.and_true, Bool.true_and, Bool.and_false, Bool.false_and, Sto.put_put, ib, ist, ifl, iif, ien, icu, jI, jB, jT, andB, orB, andC, orC, notB, decide_eq_true_eq, cut_same, cut_pp, v_lcm, fuel_itm, lcD_itm, forS_itm, s_for, m_nil, m_cons, mc_some, mc_none, imc, lt_def, yes_def, dt_none, dt_some, w_nil, w_cons, own_nil, own_cons, z_nil, z_nil2, z_cons, e_nil, e_cons, lk0, lk1, lk2, lk3, lk4, ea_nil, ea_cons, ec_nx, ec_ct, ec_bk, ec_rt, iec, List.nil_append, List.cons_append, ob, os, oo, ol, q_cons, q_nil, fl_nx, fl_rt, if_yes, if_no, if_ok, en_rt, en_nx, s_set, s_setLc, s_ret, s_retN, s_dro, s_ife, s_par, s_par3, s_tgt, v_var, v_cst, v_glo, v_tup, v_lst, v_tupS, v_lstS, v_mls, v_bin, v_neg, v_not, t_not, v_cmp, t_cmp, v_chn, t_chn, v_isN, t_isN, v_and, v_or, t_and, t_or, v_ife, t_ife, v_idx, v_slc, v_cal, t_cal, v_blt, t_blt, v_isi, t_isi, t_var, v_lrg, v_rpr, v_frz, n_nil, n_cons, f_nil, f_cons, f_star, o_none, o_some, i_seq, i_rng1, i_rng2, i_zip, i_enu, var_0, var_s, cl_call, bAdd, bSub, cLt, cLe, cGt, cGe, cEq, cNe, cEqR, cNeR, nNeg, tBl, tIn, aAbs, aInt, aIntB, aMin, aMax, aLenT, aLenR, aTupT, aTupR, aLstR, aLstT, lq0, lq1, lq2, lq3, lq4, lq5, lq6, isiI, isiB, isiT, isiL, isiN, isiSt, isii, isib, isitt, idxT, idxR, at20, at21, at2m, at30, at31, at32, at3m, at40, at41, at42, at43, at4m, seqT, seqR, sqT, sqR, asT, asR, zipT, zipR, enuR, n_isN, n_isT, n_isI, n_isL, n_isS, d_bnd, g_nm, g_tp, g_nil, g_cons, Option.map_some, Option.map_none, Option.bind_some, if_true, if_false, Bool.false_eq_true, Bool.not_true, Bool.not_false, List.set_cons_zero, List.set_cons_succ, decide_true, decide_false, reduceCtorEq]
      simp
    · have hb : ((b : Nat) : Int) ≠ 0 := by omega
      have hp : (0 : Int) < ((b : Nat) : Int) := by omega
      have ih2 := loop_gt c μ m b (a % b) (by have := Nat.mod_lt a (Nat.pos_of_ne_zero h0); omega)
      have eg : b.gcd (a % b) = a.gcd b := by rw [Nat.gcd_comm a b, Nat.gcd_rec b a, Nat.gcd_comm]
      rw [eg] at ih2
      simp only [obx, osx, s_rai, fl_ex, if_ex, ec_ex, en_ex, cut_samex, v_hrd, hr_ok, hr_ex, v_isE, t_isE, isE_err, v_fld, fld_err, v_isB, t_isB, isb_b, v_rev, revR, n_isE, or_true, true_or, or_false, false_or, and_true, true_and, and_false, false_and, or_self, and_self, not_false_eq_true, not_true_eq_false, ite_self, lcD_rng, forS_rng, fuel_rng, rng2, rng3, rng4, rngI2, rngI3, rngI4, rng8, rngI8, all0, all1, all2, all3, Bool.and_true, Bool.true_and, Bool.and_false, Bool.false_and, Sto.put_put, ib, ist, ifl, iif, ien, icu, jI, jB, jT, andB, orB, andC, orC, notB, decide_eq_true_eq, cut_same, cut_pp, v_lcm, fuel_itm, lcD_itm, forS_itm, s_for, m_nil, m_cons, mc_some, mc_none, imc, lt_def, yes_def, dt_none, dt_some, w_nil, w_cons, own_nil, own_cons, z_nil, z_nil2, z_cons, e_nil, e_cons, lk0, lk1, lk2, lk3, lk4, ea_nil, ea_cons, ec_nx, ec_ct, ec_bk, ec_rt, iec, List.nil_append, List.cons_append, ob, os, oo, ol, q_cons, q_nil, fl_nx, fl_rt, if_yes, if_no, if_ok, en_rt, en_nx, s_set, s_setLc, s_ret, s_retN, s_dro, s_ife, s_par, s_par3, s_tgt, v_var, v_cst, v_glo, v_tup, v_lst, v_tupS, v_lstS, v_mls, v_bin, v_neg, v_not, t_not, v_cmp, t_cmp, v_chn, t_chn, v_isN, t_isN, v_and, v_or, t_and, t_or, v_ife, t_ife, v_idx, v_slc, v_cal, t_cal, v_blt, t_blt, v_isi, t_isi, t_var, v_lrg, v_rpr, v_frz, n_nil, n_cons, f_nil, f_cons, f_star, o_none, o_some, i_seq, i_rng1, i_rng2, i_zip, i_enu, var_0, var_s, cl_call, bAdd, bSub, cLt, cLe, cGt, cGe, cEq, cNe, cEqR, cNeR, nNeg, tBl, tIn, aAbs, aInt, aIntB, aMin, aMax, aLenT, aLenR, aTupT, aTupR, aLstR, aLstT, lq0, lq1, lq2, lq3, lq4, lq5, lq6, isiI, isiB, isiT, isiL, isiN, isiSt, isii, isib, isitt, idxT, idxR, at20, at21, at2m, at30, at31, at32, at3m, at40, at41, at42, at43, at4m, seqT, seqR, sqT, sqR, asT, asR, zipT, zipR, enuR, n_isN, n_isT, n_isI, n_isL, n_isS, d_bnd, g_nm, g_tp, g_nil, g_cons, Option.map_some, Option.map_none, Option.bind_some, if_true, if_false, Bool.false_eq_true, Bool.not_true, Bool.not_false, List.set_cons_zero, List.set_cons_succ, decide_true, decide_false, reduceCtorEq, bMod hb, hp, fmod_nat, Out.bind]
      exact ih2
theorem c_common (n : Nat) (x y : Int) (μ : Sto) (hy : y.natAbs < WF) : CN (n + 1) "common" [.int x, .int y] μ = .ok (.int (Int.gcd x y)) μ := by
  rw [st_common]; unfold b_common
  simp only [obx, osx, s_rai, fl_ex, if_ex, ec_ex, en_ex, cut_samex, v_hrd, hr_ok, hr_ex, v_isE, t_isE, isE_err, v_fld, fld_err, v_isB, t_isB, isb_b, v_rev, revR, n_isE, or_true, true_or, or_false, false_or, and_true, true_and, and_false, false_and, or_self, and_self, not_false_eq_true, not_true_eq_false, ite_self, lcD_rng, forS_rng, fuel_rng, rng2, rng3, rng4, rngI2, rngI3, rngI4, rng8, rngI8, all0, all1, all2, all3, Bool.and_true, Bool.true_and, Bool.and_false, Bool.false_and, Sto.put_put, ib, ist, ifl, iif, ien, icu, jI, jB, jT, andB, orB, andC, orC, notB, decide_eq_true_eq, cut_same, cut_pp, v_lcm, fuel_itm, lcD_itm, forS_itm, s_for, m_nil, m_cons, mc_some, mc_none, imc, lt_def, yes_def, dt_none, dt_some, w_nil, w_cons, own_nil, own_cons, z_nil, z_nil2, z_cons, e_nil, e_cons, lk0, lk1, lk2, lk3, lk4, ea_nil, ea_cons, ec_nx, ec_ct, ec_bk, ec_rt, iec, List.nil_append, List.cons_append, ob, os, oo, ol, q_cons, q_nil, fl_nx, fl_rt, if_yes, if_no, if_ok, en_rt, en_nx, s_set, s_setLc, s_ret, s_retN, s_dro, s_ife, s_par, s_par3, s_tgt, v_var, v_cst, v_glo, v_tup, v_lst, v_tupS, v_lstS, v_mls, v_bin, v_neg, v_not, t_not, v_cmp, t_cmp, v_chn, t_chn, v_isN, t_isN, v_and, v_or, t_and, t_or, v_ife, t_ife, v_idx, v_slc, v_cal, t_cal, v_blt, t_blt, v_isi, t_isi, t_var, v_lrg, v_rpr, v_frz, n_nil, n_cons, f_nil, f_cons, f_star, o_none, o_some, i_seq, i_rng1, i_rng2, i_zip, i_enu, var_0, var_s, cl_call, bAdd, bSub, cLt, cLe, cGt, cGe, cEq, cNe, cEqR, cNeR, nNeg, tBl, tIn, aAbs, aInt, aIntB, aMin, aMax, aLenT, aLenR, aTupT, aTupR, aLstR, aLstT, lq0, lq1, lq2, lq3, lq4, lq5, lq6, isiI, isiB, isiT, isiL, isiN, isiSt, isii, isib, isitt, idxT, idxR, at20, at21, at2m, at30, at31, at32, at3m, at40, at41, at42, at43, at4m, seqT, seqR, sqT, sqR, asT, asR, zipT, zipR, enuR, n_isN, n_isT, n_isI, n_isL, n_isS, d_bnd, g_nm, g_tp, g_nil, g_cons, Option.map_some, Option.map_none, Option.bind_some, if_true, if_false, Bool.false_eq_true, Bool.not_true, Bool.not_false, List.set_cons_zero, List.set_cons_succ, decide_true, decide_false, reduceCtorEq, s_wil, loop_ne ⟨WF, CN n⟩ μ WF x.natAbs y.natAbs hy]
  rfl
theorem c_frac_common (n : Nat) (x y : Int) (μ : Sto) (hy : y.natAbs < WF) : CN (n + 1) "_law_frac_common" [.int x, .int y] μ = .ok (.int (Int.gcd x y)) μ := by
  rw [st__law_frac_common]; unfold b__law_frac_common
  simp only [obx, osx, s_rai, fl_ex, if_ex, ec_ex, en_ex, cut_samex, v_hrd, hr_ok, hr_ex, v_isE, t_isE, isE_err, v_fld, fld_err, v_isB, t_isB, isb_b, v_rev, revR, n_isE, or_true, true_or, or_false, false_or, and_true, true_and, and_false, false_and, or_self, and_self, not_false_eq_true, not_true_eq_false, ite_self, lcD_rng, forS_rng, fuel_rng, rng2, rng3, rng4, rngI2, rngI3, rngI4, rng8, rngI8, all0, all1, all2, all3, Bool.and_true, Bool.true_and, Bool.and_false, Bool.false_and, Sto.put_put, ib, ist, ifl, iif, ien, icu, jI, jB, jT, andB, orB, andC, orC, notB, decide_eq_true_eq, cut_same, cut_pp, v_lcm, fuel_itm, lcD_itm, forS_itm, s_for, m_nil, m_cons, mc_some, mc_none, imc, lt_def, yes_def, dt_none, dt_some, w_nil, w_cons, own_nil, own_cons, z_nil, z_nil2, z_cons, e_nil, e_cons, lk0, lk1, lk2, lk3, lk4, ea_nil, ea_cons, ec_nx, ec_ct, ec_bk, ec_rt, iec, List.nil_append, List.cons_append, ob, os, oo, ol, q_cons, q_nil, fl_nx, fl_rt, if_yes, if_no, if_ok, en_rt, en_nx, s_set, s_setLc, s_ret, s_retN, s_dro, s_ife, s_par, s_par3, s_tgt, v_var, v_cst, v_glo, v_tup, v_lst, v_tupS, v_lstS, v_mls, v_bin, v_neg, v_not, t_not, v_cmp, t_cmp, v_chn, t_chn, v_isN, t_isN, v_and, v_or, t_and, t_or, v_ife, t_ife, v_idx, v_slc, v_cal, t_cal, v_blt, t_blt, v_isi, t_isi, t_var, v_lrg, v_rpr, v_frz, n_nil, n_cons, f_nil, f_cons, f_star, o_none, o_some, i_seq, i_rng1, i_rng2, i_zip, i_enu, var_0, var_s, cl_call, bAdd, bSub, cLt, cLe, cGt, cGe, cEq, cNe, cEqR, cNeR, nNeg, tBl, tIn, aAbs, aInt, aIntB, aMin, aMax, aLenT, aLenR, aTupT, aTupR, aLstR, aLstT, lq0, lq1, lq2, lq3, lq4, lq5, lq6, isiI, isiB, isiT, isiL, isiN, isiSt, isii, isib, isitt, idxT, idxR, at20, at21, at2m, at30, at31, at32, at3m, at40, at41, at42, at43, at4m, seqT, seqR, sqT, sqR, asT, asR, zipT, zipR, enuR, n_isN, n_isT, n_isI, n_isL, n_isS, d_bnd, g_nm, g_tp, g_nil, g_cons, Option.map_some, Option.map_none, Option.bind_some, if_true, if_false, Bool.false_eq_true, Bool.not_true, Bool.not_false, List.set_cons_zero, List.set_cons_succ, decide_true, decide_false, reduceCtorEq, s_wil, loop_gt ⟨WF, CN n⟩ μ WF x.natAbs y.natAbs hy]
  rfl
/-! ### the program's tests -/
theorem c_whole (n : Nat) (x : Int) (μ : Sto) : CN (n + 1) "is_whole" [.int x] μ = .ok (.bl true) μ := by
  rw [st_is_whole]; unfold b_is_whole
  simp only [obx, osx, s_rai, fl_ex, if_ex, ec_ex, en_ex, cut_samex, v_hrd, hr_ok, hr_ex, v_isE, t_isE, isE_err, v_fld, fld_err, v_isB, t_isB, isb_b, v_rev, revR, n_isE, or_true, true_or, or_false, false_or, and_true, true_and, and_false, false_and, or_self, and_self, not_false_eq_true, not_true_eq_false, ite_self, lcD_rng, forS_rng, fuel_rng, rng2, rng3, rng4, rngI2, rngI3, rngI4, rng8, rngI8, all0, all1, all2, all3, Bool.and_true, Bool.true_and, Bool.and_false, Bool.false_and, Sto.put_put, ib, ist, ifl, iif, ien, icu, jI, jB, jT, andB, orB, andC, orC, notB, decide_eq_true_eq, cut_same, cut_pp, v_lcm, fuel_itm, lcD_itm, forS_itm, s_for, m_nil, m_cons, mc_some, mc_none, imc, lt_def, yes_def, dt_none, dt_some, w_nil, w_cons, own_nil, own_cons, z_nil, z_nil2, z_cons, e_nil, e_cons, lk0, lk1, lk2, lk3, lk4, ea_nil, ea_cons, ec_nx, ec_ct, ec_bk, ec_rt, iec, List.nil_append, List.cons_append, ob, os, oo, ol, q_cons, q_nil, fl_nx, fl_rt, if_yes, if_no, if_ok, en_rt, en_nx, s_set, s_setLc, s_ret, s_retN, s_dro, s_ife, s_par, s_par3, s_tgt, v_var, v_cst, v_glo, v_tup, v_lst, v_tupS, v_lstS, v_mls, v_bin, v_neg, v_not, t_not, v_cmp, t_cmp, v_chn, t_chn, v_isN, t_isN, v_and, v_or, t_and, t_or, v_ife, t_ife, v_idx, v_slc, v_cal, t_cal, v_blt, t_blt, v_isi, t_isi, t_var, v_lrg, v_rpr, v_frz, n_nil, n_cons, f_nil, f_cons, f_star, o_none, o_some, i_seq, i_rng1, i_rng2, i_zip, i_enu, var_0, var_s, cl_call, bAdd, bSub, cLt, cLe, cGt, cGe, cEq, cNe, cEqR, cNeR, nNeg, tBl, tIn, aAbs, aInt, aIntB, aMin, aMax, aLenT, aLenR, aTupT, aTupR, aLstR, aLstT, lq0, lq1, lq2, lq3, lq4, lq5, lq6, isiI, isiB, isiT, isiL, isiN, isiSt, isii, isib, isitt, idxT, idxR, at20, at21, at2m, at30, at31, at32, at3m, at40, at41, at42, at43, at4m, seqT, seqR, sqT, sqR, asT, asR, zipT, zipR, enuR, n_isN, n_isT, n_isI, n_isL, n_isS, d_bnd, g_nm, g_tp, g_nil, g_cons, Option.map_some, Option.map_none, Option.bind_some, if_true, if_false, Bool.false_eq_true, Bool.not_true, Bool.not_false, List.set_cons_zero, List.set_cons_succ, decide_true, decide_false, reduceCtorEq]
theorem c_tup2 (n : Nat) (a b : D) (μ : Sto) : CN (n + 1) "is_tuple" [.tup [a, b], .int 2, .int 2] μ = .ok (.bl true) μ := by
  rw [st_is_tuple]; unfold b_is_tuple
  simp only [obx, osx, s_rai, fl_ex, if_ex, ec_ex, en_ex, cut_samex, v_hrd, hr_ok, hr_ex, v_isE, t_isE, isE_err, v_fld, fld_err, v_isB, t_isB, isb_b, v_rev, revR, n_isE, or_true, true_or, or_false, false_or, and_true, true_and, and_false, false_and, or_self, and_self, not_false_eq_true, not_true_eq_false, ite_self, lcD_rng, forS_rng, fuel_rng, rng2, rng3, rng4, rngI2, rngI3, rngI4, rng8, rngI8, all0, all1, all2, all3, Bool.and_true, Bool.true_and, Bool.and_false, Bool.false_and, Sto.put_put, ib, ist, ifl, iif, ien, icu, jI, jB, jT, andB, orB, andC, orC, notB, decide_eq_true_eq, cut_same, cut_pp, v_lcm, fuel_itm, lcD_itm, forS_itm, s_for, m_nil, m_cons, mc_some, mc_none, imc, lt_def, yes_def, dt_none, dt_some, w_nil, w_cons, own_nil, own_cons, z_nil, z_nil2, z_cons, e_nil, e_cons, lk0, lk1, lk2, lk3, lk4, ea_nil, ea_cons, ec_nx, ec_ct, ec_bk, ec_rt, iec, List.nil_append, List.cons_append, ob, os, oo, ol, q_cons, q_nil, fl_nx, fl_rt, if_yes, if_no, if_ok, en_rt, en_nx, s_set, s_setLc, s_ret, s_retN, s_dro, s_ife, s_par, s_par3, s_tgt, v_var, v_cst, v_glo, v_tup, v_lst, v_tupS, v_lstS, v_mls, v_bin, v_neg, v_not, t_not, v_cmp, t_cmp, v_chn, t_chn, v_isN, t_isN, v_and, v_or, t_and, t_or, v_ife, t_ife, v_idx, v_slc, v_cal, t_cal, v_blt, t_blt, v_isi, t_isi, t_var, v_lrg, v_rpr, v_frz, n_nil, n_cons, f_nil, f_cons, f_star, o_none, o_some, i_seq, i_rng1, i_rng2, i_zip, i_enu, var_0, var_s, cl_call, bAdd, bSub, cLt, cLe, cGt, cGe, cEq, cNe, cEqR, cNeR, nNeg, tBl, tIn, aAbs, aInt, aIntB, aMin, aMax, aLenT, aLenR, aTupT, aTupR, aLstR, aLstT, lq0, lq1, lq2, lq3, lq4, lq5, lq6, isiI, isiB, isiT, isiL, isiN, isiSt, isii, isib, isitt, idxT, idxR, at20, at21, at2m, at30, at31, at32, at3m, at40, at41, at42, at43, at4m, seqT, seqR, sqT, sqR, asT, asR, zipT, zipR, enuR, n_isN, n_isT, n_isI, n_isL, n_isS, d_bnd, g_nm, g_tp, g_nil, g_cons, Option.map_some, Option.map_none, Option.bind_some, if_true, if_false, Bool.false_eq_true, Bool.not_true, Bool.not_false, List.set_cons_zero, List.set_cons_succ, decide_true, decide_false, reduceCtorEq]
  rfl
theorem c_tup3 (n : Nat) (a b c : D) (μ : Sto) : CN (n + 1) "is_tuple" [.tup [a, b, c], .int 3, .int 3] μ = .ok (.bl true) μ := by
  rw [st_is_tuple]; unfold b_is_tuple
  simp only [obx, osx, s_rai, fl_ex, if_ex, ec_ex, en_ex, cut_samex, v_hrd, hr_ok, hr_ex, v_isE, t_isE, isE_err, v_fld, fld_err, v_isB, t_isB, isb_b, v_rev, revR, n_isE, or_true, true_or, or_false, false_or, and_true, true_and, and_false, false_and, or_self, and_self, not_false_eq_true, not_true_eq_false, ite_self, lcD_rng, forS_rng, fuel_rng, rng2, rng3, rng4, rngI2, rngI3, rngI4, rng8, rngI8, all0, all1, all2, all3, Bool.and_true, Bool.true_and, Bool.and_false, Bool.false_and, Sto.put_put, ib, ist, ifl, iif, ien, icu, jI, jB, jT, andB, orB, andC, orC, notB, decide_eq_true_eq, cut_same, cut_pp, v_lcm, fuel_itm, lcD_itm, forS_itm, s_for, m_nil, m_cons, mc_some, mc_none, imc, lt_def, yes_def, dt_none, dt_some, w_nil, w_cons, own_nil, own_cons, z_nil, z_nil2, z_cons, e_nil, e_cons, lk0, lk1, lk2, lk3, lk4, ea_nil, ea_cons, ec_nx, ec_ct, ec_bk, ec_rt, iec, List.nil_append, List.cons_append, ob, os, oo, ol, q_cons, q_nil, fl_nx, fl_rt, if_yes, if_no, if_ok, en_rt, en_nx, s_set, s_setLc, s_ret, s_retN, s_dro, s_ife, s_par, s_par3, s_tgt, v_var, v_cst, v_glo, v_tup, v_lst, v_tupS, v_lstS, v_mls, v_bin, v_neg, v_not, t_not, v_cmp, t_cmp, v_chn, t_chn, v_isN, t_isN, v_and, v_or, t_and, t_or, v_ife, t_ife, v_idx, v_slc, v_cal, t_cal, v_blt, t_blt, v_isi, t_isi, t_var, v_lrg, v_rpr, v_frz, n_nil, n_cons, f_nil, f_cons, f_star, o_none, o_some, i_seq, i_rng1, i_rng2, i_zip, i_enu, var_0, var_s, cl_call, bAdd, bSub, cLt, cLe, cGt, cGe, cEq, cNe, cEqR, cNeR, nNeg, tBl, tIn, aAbs, aInt, aIntB, aMin, aMax, aLenT, aLenR, aTupT, aTupR, aLstR, aLstT, lq0, lq1, lq2, lq3, lq4, lq5, lq6, isiI, isiB, isiT, isiL, isiN, isiSt, isii, isib, isitt, idxT, idxR, at20, at21, at2m, at30, at31, at32, at3m, at40, at41, at42, at43, at4m, seqT, seqR, sqT, sqR, asT, asR, zipT, zipR, enuR, n_isN, n_isT, n_isI, n_isL, n_isS, d_bnd, g_nm, g_tp, g_nil, g_cons, Option.map_some, Option.map_none, Option.bind_some, if_true, if_false, Bool.false_eq_true, Bool.not_true, Bool.not_false, List.set_cons_zero, List.set_cons_succ, decide_true, decide_false, reduceCtorEq]
  rfl
theorem c_point (n : Nat) (P : P3) (μ : Sto) (h : NmP P) (hb : BdP P 1000000) : CN (n + 2) "is_point" [pD P] μ = .ok (.bl true) μ := by
  obtain ⟨b1, b2, b3⟩ := hb
  have e : ¬ P.2.2 < 1 := by have := h.pos; omega
  have g : Int.gcd (Int.gcd P.1 P.2.1) P.2.2 = 1 := h.gcd
  have g' : ((Int.gcd (Int.gcd P.1 P.2.1) P.2.2 : Nat) : Int) = 1 := by rw [g]; rfl
  rw [st_is_point]; unfold b_is_point
  simp (disch := first | assumption | rfl | exact lt_big (by (repeat' first | assumption | exact (show _ < 2 ^ 64 by decide) | apply mul_bd | apply add_bd | apply sub_bd | apply neg_bd)) (by decide) | exact lt_mid (by (repeat' first | assumption | exact (show _ < 2 ^ 64 by decide) | apply mul_bd | apply add_bd | apply sub_bd | apply neg_bd)) (by decide) | exact bigW (by (repeat' first | assumption | exact (show _ < 2 ^ 64 by decide) | apply mul_bd | apply add_bd | apply sub_bd | apply neg_bd)) (by decide)) only [obx, osx, s_rai, fl_ex, if_ex, ec_ex, en_ex, cut_samex, v_hrd, hr_ok, hr_ex, v_isE, t_isE, isE_err, v_fld, fld_err, v_isB, t_isB, isb_b, v_rev, revR, n_isE, or_true, true_or, or_false, false_or, and_true, true_and, and_false, false_and, or_self, and_self, not_false_eq_true, not_true_eq_false, ite_self, lcD_rng, forS_rng, fuel_rng, rng2, rng3, rng4, rngI2, rngI3, rngI4, rng8, rngI8, all0, all1, all2, all3, Bool.and_true, Bool.true_and, Bool.and_false, Bool.false_and, Sto.put_put, ib, ist, ifl, iif, ien, icu, jI, jB, jT, andB, orB, andC, orC, notB, decide_eq_true_eq, cut_same, cut_pp, v_lcm, fuel_itm, lcD_itm, forS_itm, s_for, m_nil, m_cons, mc_some, mc_none, imc, lt_def, yes_def, dt_none, dt_some, w_nil, w_cons, own_nil, own_cons, z_nil, z_nil2, z_cons, e_nil, e_cons, lk0, lk1, lk2, lk3, lk4, ea_nil, ea_cons, ec_nx, ec_ct, ec_bk, ec_rt, iec, List.nil_append, List.cons_append, ob, os, oo, ol, q_cons, q_nil, fl_nx, fl_rt, if_yes, if_no, if_ok, en_rt, en_nx, s_set, s_setLc, s_ret, s_retN, s_dro, s_ife, s_par, s_par3, s_tgt, v_var, v_cst, v_glo, v_tup, v_lst, v_tupS, v_lstS, v_mls, v_bin, v_neg, v_not, t_not, v_cmp, t_cmp, v_chn, t_chn, v_isN, t_isN, v_and, v_or, t_and, t_or, v_ife, t_ife, v_idx, v_slc, v_cal, t_cal, v_blt, t_blt, v_isi, t_isi, t_var, v_lrg, v_rpr, v_frz, n_nil, n_cons, f_nil, f_cons, f_star, o_none, o_some, i_seq, i_rng1, i_rng2, i_zip, i_enu, var_0, var_s, cl_call, bAdd, bSub, cLt, cLe, cGt, cGe, cEq, cNe, cEqR, cNeR, nNeg, tBl, tIn, aAbs, aInt, aIntB, aMin, aMax, aLenT, aLenR, aTupT, aTupR, aLstR, aLstT, lq0, lq1, lq2, lq3, lq4, lq5, lq6, isiI, isiB, isiT, isiL, isiN, isiSt, isii, isib, isitt, idxT, idxR, at20, at21, at2m, at30, at31, at32, at3m, at40, at41, at42, at43, at4m, seqT, seqR, sqT, sqR, asT, asR, zipT, zipR, enuR, n_isN, n_isT, n_isI, n_isL, n_isS, d_bnd, g_nm, g_tp, g_nil, g_cons, Option.map_some, Option.map_none, Option.bind_some, if_true, if_false, Bool.false_eq_true, Bool.not_true, Bool.not_false, List.set_cons_zero, List.set_cons_succ, decide_true, decide_false, reduceCtorEq, c_whole, c_tup3, c_common, e, g']
theorem sg_if (b g : Int) : (if 0 < b then g else -g) = sg b g := rfl
theorem c_point_at (n : Nat) (x y b : Int) (μ : Sto) (hb : b ≠ 0) (hy : y.natAbs < WF) (hb2 : b.natAbs < 2 ^ 8000) : CN (n + 2) "point_at" [.int x, .int y, .int b] μ = .ok (pD (nrm x y b)) μ := by
  have hw := bigW hb2 (by decide)
  have h0 : 0 < g3 x y b := Int.gcd_pos_of_ne_zero_right _ hb
  have hs : sg b (g3 x y b) ≠ 0 := sg_ne (by omega)
  have ha : (sg b (g3 x y b)).natAbs < MID := by
    rw [sg_abs]
    refine lt_mid ?_ (Nat.le_refl 8000)
    have : g3 x y b ≤ b.natAbs := Nat.gcd_le_right _ (by omega)
    omega
  rw [st_point_at]; unfold b_point_at
  simp (disch := first | assumption | first | assumption | rfl | exact lt_big (by (repeat' first | assumption | exact (show _ < 2 ^ 64 by decide) | apply mul_bd | apply add_bd | apply sub_bd | apply neg_bd)) (by decide) | exact lt_mid (by (repeat' first | assumption | exact (show _ < 2 ^ 64 by decide) | apply mul_bd | apply add_bd | apply sub_bd | apply neg_bd)) (by decide) | exact bigW (by (repeat' first | assumption | exact (show _ < 2 ^ 64 by decide) | apply mul_bd | apply add_bd | apply sub_bd | apply neg_bd)) (by decide)) only [obx, osx, s_rai, fl_ex, if_ex, ec_ex, en_ex, cut_samex, v_hrd, hr_ok, hr_ex, v_isE, t_isE, isE_err, v_fld, fld_err, v_isB, t_isB, isb_b, v_rev, revR, n_isE, or_true, true_or, or_false, false_or, and_true, true_and, and_false, false_and, or_self, and_self, not_false_eq_true, not_true_eq_false, ite_self, lcD_rng, forS_rng, fuel_rng, rng2, rng3, rng4, rngI2, rngI3, rngI4, rng8, rngI8, all0, all1, all2, all3, Bool.and_true, Bool.true_and, Bool.and_false, Bool.false_and, Sto.put_put, ib, ist, ifl, iif, ien, icu, jI, jB, jT, andB, orB, andC, orC, notB, decide_eq_true_eq, cut_same, cut_pp, v_lcm, fuel_itm, lcD_itm, forS_itm, s_for, m_nil, m_cons, mc_some, mc_none, imc, lt_def, yes_def, dt_none, dt_some, w_nil, w_cons, own_nil, own_cons, z_nil, z_nil2, z_cons, e_nil, e_cons, lk0, lk1, lk2, lk3, lk4, ea_nil, ea_cons, ec_nx, ec_ct, ec_bk, ec_rt, iec, List.nil_append, List.cons_append, ob, os, oo, ol, q_cons, q_nil, fl_nx, fl_rt, if_yes, if_no, if_ok, en_rt, en_nx, s_set, s_setLc, s_ret, s_retN, s_dro, s_ife, s_par, s_par3, s_tgt, v_var, v_cst, v_glo, v_tup, v_lst, v_tupS, v_lstS, v_mls, v_bin, v_neg, v_not, t_not, v_cmp, t_cmp, v_chn, t_chn, v_isN, t_isN, v_and, v_or, t_and, t_or, v_ife, t_ife, v_idx, v_slc, v_cal, t_cal, v_blt, t_blt, v_isi, t_isi, t_var, v_lrg, v_rpr, v_frz, n_nil, n_cons, f_nil, f_cons, f_star, o_none, o_some, i_seq, i_rng1, i_rng2, i_zip, i_enu, var_0, var_s, cl_call, bAdd, bSub, cLt, cLe, cGt, cGe, cEq, cNe, cEqR, cNeR, nNeg, tBl, tIn, aAbs, aInt, aIntB, aMin, aMax, aLenT, aLenR, aTupT, aTupR, aLstR, aLstT, lq0, lq1, lq2, lq3, lq4, lq5, lq6, isiI, isiB, isiT, isiL, isiN, isiSt, isii, isib, isitt, idxT, idxR, at20, at21, at2m, at30, at31, at32, at3m, at40, at41, at42, at43, at4m, seqT, seqR, sqT, sqR, asT, asR, zipT, zipR, enuR, n_isN, n_isT, n_isI, n_isL, n_isS, d_bnd, g_nm, g_tp, g_nil, g_cons, Option.map_some, Option.map_none, Option.bind_some, if_true, if_false, Bool.false_eq_true, Bool.not_true, Bool.not_false, List.set_cons_zero, List.set_cons_succ, decide_true, decide_false, reduceCtorEq, c_common, sg_if, show ((Int.gcd (Int.gcd x y) b : Nat) : Int) = (g3 x y b : Int) from rfl, bDiv, nrm]
theorem loop_check (n : Nat) : ∀ (ds : List D) (v0 : Option D) (v : Option D) (μ : Sto), (∀ d ∈ ds, ∃ P : P3, d = pD P ∧ NmP P ∧ BdP P 1000000) → ∃ v', eachD (.nm 1) (exSs ⟨WF, CN (n + 2)⟩ [(.ife (.not (.cal "is_point" (.cons (.var 1) .nil))) [.rai "BadPoint" (.var 1)] [])]) ds [v0, v] μ = .ok (.nx [v0, v']) μ
  | [], v0, v, μ, _ => ⟨v, rfl⟩
  | d :: ds, v0, v, μ, h => by
    obtain ⟨P, rfl, nP, bP⟩ := h d List.mem_cons_self
    obtain ⟨v', e'⟩ := loop_check n ds v0 (some (pD P)) μ fun e he => h e (List.mem_cons_of_mem _ he)
    refine ⟨v', ?_⟩
    simp only [obx, osx, s_rai, fl_ex, if_ex, ec_ex, en_ex, cut_samex, v_hrd, hr_ok, hr_ex, v_isE, t_isE, isE_err, v_fld, fld_err, v_isB, t_isB, isb_b, v_rev, revR, n_isE, or_true, true_or, or_false, false_or, and_true, true_and, and_false, false_and, or_self, and_self, not_false_eq_true, not_true_eq_false, ite_self, lcD_rng, forS_rng, fuel_rng, rng2, rng3, rng4, rngI2, rngI3, rngI4, rng8, rngI8, all0, all1, all2, all3, Bool.and_true, Bool.true_and, Bool.and_false, Bool.false_and, Sto.put_put, ib, ist, ifl, iif, ien, icu, jI, jB, jT, andB, orB, andC, orC, notB, decide_eq_true_eq, cut_same, cut_pp, v_lcm, fuel_itm, lcD_itm, forS_itm, s_for, m_nil, m_cons, mc_some, mc_none, imc, lt_def, yes_def, dt_none, dt_some, w_nil, w_cons, own_nil, own_cons, z_nil, z_nil2, z_cons, e_nil, e_cons, lk0, lk1, lk2, lk3, lk4, ea_nil, ea_cons, ec_nx, ec_ct, ec_bk, ec_rt, iec, List.nil_append, List.cons_append, ob, os, oo, ol, q_cons, q_nil, fl_nx, fl_rt, if_yes, if_no, if_ok, en_rt, en_nx, s_set, s_setLc, s_ret, s_retN, s_dro, s_ife, s_par, s_par3, s_tgt, v_var, v_cst, v_glo, v_tup, v_lst, v_tupS, v_lstS, v_mls, v_bin, v_neg, v_not, t_not, v_cmp, t_cmp, v_chn, t_chn, v_isN, t_isN, v_and, v_or, t_and, t_or, v_ife, t_ife, v_idx, v_slc, v_cal, t_cal, v_blt, t_blt, v_isi, t_isi, t_var, v_lrg, v_rpr, v_frz, n_nil, n_cons, f_nil, f_cons, f_star, o_none, o_some, i_seq, i_rng1, i_rng2, i_zip, i_enu, var_0, var_s, cl_call, bAdd, bSub, cLt, cLe, cGt, cGe, cEq, cNe, cEqR, cNeR, nNeg, tBl, tIn, aAbs, aInt, aIntB, aMin, aMax, aLenT, aLenR, aTupT, aTupR, aLstR, aLstT, lq0, lq1, lq2, lq3, lq4, lq5, lq6, isiI, isiB, isiT, isiL, isiN, isiSt, isii, isib, isitt, idxT, idxR, at20, at21, at2m, at30, at31, at32, at3m, at40, at41, at42, at43, at4m, seqT, seqR, sqT, sqR, asT, asR, zipT, zipR, enuR, n_isN, n_isT, n_isI, n_isL, n_isS, d_bnd, g_nm, g_tp, g_nil, g_cons, Option.map_some, Option.map_none, Option.bind_some, if_true, if_false, Bool.false_eq_true, Bool.not_true, Bool.not_false, List.set_cons_zero, List.set_cons_succ, decide_true, decide_false, reduceCtorEq, c_point n P μ nP bP]
    exact e'
theorem c_check (n : Nat) (ds : List D) (μ : Sto) (h : ∀ d ∈ ds, ∃ P : P3, d = pD P ∧ NmP P ∧ BdP P 1000000) : CN (n + 3) "check_points" [.tup ds] μ = .ok .non μ := by
  obtain ⟨v', e⟩ := loop_check n ds (some (.tup ds)) none μ h
  rw [st_check_points]; unfold b_check_points
  simp only [obx, osx, s_rai, fl_ex, if_ex, ec_ex, en_ex, cut_samex, v_hrd, hr_ok, hr_ex, v_isE, t_isE, isE_err, v_fld, fld_err, v_isB, t_isB, isb_b, v_rev, revR, n_isE, or_true, true_or, or_false, false_or, and_true, true_and, and_false, false_and, or_self, and_self, not_false_eq_true, not_true_eq_false, ite_self, lcD_rng, forS_rng, fuel_rng, rng2, rng3, rng4, rngI2, rngI3, rngI4, rng8, rngI8, all0, all1, all2, all3, Bool.and_true, Bool.true_and, Bool.and_false, Bool.false_and, Sto.put_put, ib, ist, ifl, iif, ien, icu, jI, jB, jT, andB, orB, andC, orC, notB, decide_eq_true_eq, cut_same, cut_pp, v_lcm, fuel_itm, lcD_itm, forS_itm, s_for, m_nil, m_cons, mc_some, mc_none, imc, lt_def, yes_def, dt_none, dt_some, w_nil, w_cons, own_nil, own_cons, z_nil, z_nil2, z_cons, e_nil, e_cons, lk0, lk1, lk2, lk3, lk4, ea_nil, ea_cons, ec_nx, ec_ct, ec_bk, ec_rt, iec, List.nil_append, List.cons_append, ob, os, oo, ol, q_cons, q_nil, fl_nx, fl_rt, if_yes, if_no, if_ok, en_rt, en_nx, s_set, s_setLc, s_ret, s_retN, s_dro, s_ife, s_par, s_par3, s_tgt, v_var, v_cst, v_glo, v_tup, v_lst, v_tupS, v_lstS, v_mls, v_bin, v_neg, v_not, t_not, v_cmp, t_cmp, v_chn, t_chn, v_isN, t_isN, v_and, v_or, t_and, t_or, v_ife, t_ife, v_idx, v_slc, v_cal, t_cal, v_blt, t_blt, v_isi, t_isi, t_var, v_lrg, v_rpr, v_frz, n_nil, n_cons, f_nil, f_cons, f_star, o_none, o_some, i_seq, i_rng1, i_rng2, i_zip, i_enu, var_0, var_s, cl_call, bAdd, bSub, cLt, cLe, cGt, cGe, cEq, cNe, cEqR, cNeR, nNeg, tBl, tIn, aAbs, aInt, aIntB, aMin, aMax, aLenT, aLenR, aTupT, aTupR, aLstR, aLstT, lq0, lq1, lq2, lq3, lq4, lq5, lq6, isiI, isiB, isiT, isiL, isiN, isiSt, isii, isib, isitt, idxT, idxR, at20, at21, at2m, at30, at31, at32, at3m, at40, at41, at42, at43, at4m, seqT, seqR, sqT, sqR, asT, asR, zipT, zipR, enuR, n_isN, n_isT, n_isI, n_isL, n_isS, d_bnd, g_nm, g_tp, g_nil, g_cons, Option.map_some, Option.map_none, Option.bind_some, if_true, if_false, Bool.false_eq_true, Bool.not_true, Bool.not_false, List.set_cons_zero, List.set_cons_succ, decide_true, decide_false, reduceCtorEq, e]
/-! ### lines -/
theorem c_line_through (n : Nat) (A B : P3) (μ : Sto) (hA : BdP A 400000) (hB : BdP B 400000) : CN (n + 1) "line_through" [pD A, pD B] μ = .ok (pD (lin A B)) μ := by
  obtain ⟨p1, p2, p3⟩ := hA
  obtain ⟨r1, r2, r3⟩ := hB
  rw [st_line_through]; unfold b_line_through
  simp (disch := first | assumption | rfl | exact lt_big (by (repeat' first | assumption | exact (show _ < 2 ^ 64 by decide) | apply mul_bd | apply add_bd | apply sub_bd | apply neg_bd)) (by decide) | exact lt_mid (by (repeat' first | assumption | exact (show _ < 2 ^ 64 by decide) | apply mul_bd | apply add_bd | apply sub_bd | apply neg_bd)) (by decide) | exact bigW (by (repeat' first | assumption | exact (show _ < 2 ^ 64 by decide) | apply mul_bd | apply add_bd | apply sub_bd | apply neg_bd)) (by decide)) only [obx, osx, s_rai, fl_ex, if_ex, ec_ex, en_ex, cut_samex, v_hrd, hr_ok, hr_ex, v_isE, t_isE, isE_err, v_fld, fld_err, v_isB, t_isB, isb_b, v_rev, revR, n_isE, or_true, true_or, or_false, false_or, and_true, true_and, and_false, false_and, or_self, and_self, not_false_eq_true, not_true_eq_false, ite_self, lcD_rng, forS_rng, fuel_rng, rng2, rng3, rng4, rngI2, rngI3, rngI4, rng8, rngI8, all0, all1, all2, all3, Bool.and_true, Bool.true_and, Bool.and_false, Bool.false_and, Sto.put_put, ib, ist, ifl, iif, ien, icu, jI, jB, jT, andB, orB, andC, orC, notB, decide_eq_true_eq, cut_same, cut_pp, v_lcm, fuel_itm, lcD_itm, forS_itm, s_for, m_nil, m_cons, mc_some, mc_none, imc, lt_def, yes_def, dt_none, dt_some, w_nil, w_cons, own_nil, own_cons, z_nil, z_nil2, z_cons, e_nil, e_cons, lk0, lk1, lk2, lk3, lk4, ea_nil, ea_cons, ec_nx, ec_ct, ec_bk, ec_rt, iec, List.nil_append, List.cons_append, ob, os, oo, ol, q_cons, q_nil, fl_nx, fl_rt, if_yes, if_no, if_ok, en_rt, en_nx, s_set, s_setLc, s_ret, s_retN, s_dro, s_ife, s_par, s_par3, s_tgt, v_var, v_cst, v_glo, v_tup, v_lst, v_tupS, v_lstS, v_mls, v_bin, v_neg, v_not, t_not, v_cmp, t_cmp, v_chn, t_chn, v_isN, t_isN, v_and, v_or, t_and, t_or, v_ife, t_ife, v_idx, v_slc, v_cal, t_cal, v_blt, t_blt, v_isi, t_isi, t_var, v_lrg, v_rpr, v_frz, n_nil, n_cons, f_nil, f_cons, f_star, o_none, o_some, i_seq, i_rng1, i_rng2, i_zip, i_enu, var_0, var_s, cl_call, bAdd, bSub, cLt, cLe, cGt, cGe, cEq, cNe, cEqR, cNeR, nNeg, tBl, tIn, aAbs, aInt, aIntB, aMin, aMax, aLenT, aLenR, aTupT, aTupR, aLstR, aLstT, lq0, lq1, lq2, lq3, lq4, lq5, lq6, isiI, isiB, isiT, isiL, isiN, isiSt, isii, isib, isitt, idxT, idxR, at20, at21, at2m, at30, at31, at32, at3m, at40, at41, at42, at43, at4m, seqT, seqR, sqT, sqR, asT, asR, zipT, zipR, enuR, n_isN, n_isT, n_isI, n_isL, n_isS, d_bnd, g_nm, g_tp, g_nil, g_cons, Option.map_some, Option.map_none, Option.bind_some, if_true, if_false, Bool.false_eq_true, Bool.not_true, Bool.not_false, List.set_cons_zero, List.set_cons_succ, decide_true, decide_false, reduceCtorEq, bMul, lin]
theorem c_line_side (n : Nat) (A B C : P3) (μ : Sto) (hA : BdP A 200000) (hB : BdP B 200000) (hC : BdP C 200000) : CN (n + 2) "line_side" [pD A, pD B, pD C] μ = .ok (.int (sgn (det A B C))) μ := by
  have e := c_line_through n A B μ (hA.mono (by decide)) (hB.mono (by decide))
  obtain ⟨p1, p2, p3⟩ := hA
  obtain ⟨r1, r2, r3⟩ := hB
  obtain ⟨q1, q2, q3⟩ := hC
  rw [st_line_side]; unfold b_line_side
  simp (disch := first | assumption | rfl | exact lt_big (by (repeat' first | assumption | exact (show _ < 2 ^ 64 by decide) | apply mul_bd | apply add_bd | apply sub_bd | apply neg_bd)) (by decide) | exact lt_mid (by (repeat' first | assumption | exact (show _ < 2 ^ 64 by decide) | apply mul_bd | apply add_bd | apply sub_bd | apply neg_bd)) (by decide) | exact bigW (by (repeat' first | assumption | exact (show _ < 2 ^ 64 by decide) | apply mul_bd | apply add_bd | apply sub_bd | apply neg_bd)) (by decide)) only [obx, osx, s_rai, fl_ex, if_ex, ec_ex, en_ex, cut_samex, v_hrd, hr_ok, hr_ex, v_isE, t_isE, isE_err, v_fld, fld_err, v_isB, t_isB, isb_b, v_rev, revR, n_isE, or_true, true_or, or_false, false_or, and_true, true_and, and_false, false_and, or_self, and_self, not_false_eq_true, not_true_eq_false, ite_self, lcD_rng, forS_rng, fuel_rng, rng2, rng3, rng4, rngI2, rngI3, rngI4, rng8, rngI8, all0, all1, all2, all3, Bool.and_true, Bool.true_and, Bool.and_false, Bool.false_and, Sto.put_put, ib, ist, ifl, iif, ien, icu, jI, jB, jT, andB, orB, andC, orC, notB, decide_eq_true_eq, cut_same, cut_pp, v_lcm, fuel_itm, lcD_itm, forS_itm, s_for, m_nil, m_cons, mc_some, mc_none, imc, lt_def, yes_def, dt_none, dt_some, w_nil, w_cons, own_nil, own_cons, z_nil, z_nil2, z_cons, e_nil, e_cons, lk0, lk1, lk2, lk3, lk4, ea_nil, ea_cons, ec_nx, ec_ct, ec_bk, ec_rt, iec, List.nil_append, List.cons_append, ob, os, oo, ol, q_cons, q_nil, fl_nx, fl_rt, if_yes, if_no, if_ok, en_rt, en_nx, s_set, s_setLc, s_ret, s_retN, s_dro, s_ife, s_par, s_par3, s_tgt, v_var, v_cst, v_glo, v_tup, v_lst, v_tupS, v_lstS, v_mls, v_bin, v_neg, v_not, t_not, v_cmp, t_cmp, v_chn, t_chn, v_isN, t_isN, v_and, v_or, t_and, t_or, v_ife, t_ife, v_idx, v_slc, v_cal, t_cal, v_blt, t_blt, v_isi, t_isi, t_var, v_lrg, v_rpr, v_frz, n_nil, n_cons, f_nil, f_cons, f_star, o_none, o_some, i_seq, i_rng1, i_rng2, i_zip, i_enu, var_0, var_s, cl_call, bAdd, bSub, cLt, cLe, cGt, cGe, cEq, cNe, cEqR, cNeR, nNeg, tBl, tIn, aAbs, aInt, aIntB, aMin, aMax, aLenT, aLenR, aTupT, aTupR, aLstR, aLstT, lq0, lq1, lq2, lq3, lq4, lq5, lq6, isiI, isiB, isiT, isiL, isiN, isiSt, isii, isib, isitt, idxT, idxR, at20, at21, at2m, at30, at31, at32, at3m, at40, at41, at42, at43, at4m, seqT, seqR, sqT, sqR, asT, asR, zipT, zipR, enuR, n_isN, n_isT, n_isI, n_isL, n_isS, d_bnd, g_nm, g_tp, g_nil, g_cons, Option.map_some, Option.map_none, Option.bind_some, if_true, if_false, Bool.false_eq_true, Bool.not_true, Bool.not_false, List.set_cons_zero, List.set_cons_succ, decide_true, decide_false, reduceCtorEq, bMul, e, sgn, det, lin]
  rfl
theorem c_side (n : Nat) (A B C : P3) (μ : Sto) (nA : NmP A) (nB : NmP B) (nC : NmP C) (hA : BdP A 200000) (hB : BdP B 200000) (hC : BdP C 200000) : CN (n + 4) "side" [pD A, pD B, pD C] μ = .ok (.int (sgn (det A B C))) μ := by
  have e := c_check n [pD A, pD B, pD C] μ (by
    intro d hd
    simp only [List.mem_cons, List.not_mem_nil, or_false] at hd
    rcases hd with rfl | rfl | rfl
    · exact ⟨A, rfl, nA, hA.mono (by decide)⟩
    · exact ⟨B, rfl, nB, hB.mono (by decide)⟩
    · exact ⟨C, rfl, nC, hC.mono (by decide)⟩)
  have e2 := c_line_side (n + 1) A B C μ hA hB hC
  rw [st_side]; unfold b_side
  simp only [obx, osx, s_rai, fl_ex, if_ex, ec_ex, en_ex, cut_samex, v_hrd, hr_ok, hr_ex, v_isE, t_isE, isE_err, v_fld, fld_err, v_isB, t_isB, isb_b, v_rev, revR, n_isE, or_true, true_or, or_false, false_or, and_true, true_and, and_false, false_and, or_self, and_self, not_false_eq_true, not_true_eq_false, ite_self, lcD_rng, forS_rng, fuel_rng, rng2, rng3, rng4, rngI2, rngI3, rngI4, rng8, rngI8, all0, all1, all2, all3, Bool.and_true, Bool.true_and, Bool.and_false, Bool.false_and, Sto.put_put, ib, ist, ifl, iif, ien, icu, jI, jB, jT, andB, orB, andC, orC, notB, decide_eq_true_eq, cut_same, cut_pp, v_lcm, fuel_itm, lcD_itm, forS_itm, s_for, m_nil, m_cons, mc_some, mc_none, imc, lt_def, yes_def, dt_none, dt_some, w_nil, w_cons, own_nil, own_cons, z_nil, z_nil2, z_cons, e_nil, e_cons, lk0, lk1, lk2, lk3, lk4, ea_nil, ea_cons, ec_nx, ec_ct, ec_bk, ec_rt, iec, List.nil_append, List.cons_append, ob, os, oo, ol, q_cons, q_nil, fl_nx, fl_rt, if_yes, if_no, if_ok, en_rt, en_nx, s_set, s_setLc, s_ret, s_retN, s_dro, s_ife, s_par, s_par3, s_tgt, v_var, v_cst, v_glo, v_tup, v_lst, v_tupS, v_lstS, v_mls, v_bin, v_neg, v_not, t_not, v_cmp, t_cmp, v_chn, t_chn, v_isN, t_isN, v_and, v_or, t_and, t_or, v_ife, t_ife, v_idx, v_slc, v_cal, t_cal, v_blt, t_blt, v_isi, t_isi, t_var, v_lrg, v_rpr, v_frz, n_nil, n_cons, f_nil, f_cons, f_star, o_none, o_some, i_seq, i_rng1, i_rng2, i_zip, i_enu, var_0, var_s, cl_call, bAdd, bSub, cLt, cLe, cGt, cGe, cEq, cNe, cEqR, cNeR, nNeg, tBl, tIn, aAbs, aInt, aIntB, aMin, aMax, aLenT, aLenR, aTupT, aTupR, aLstR, aLstT, lq0, lq1, lq2, lq3, lq4, lq5, lq6, isiI, isiB, isiT, isiL, isiN, isiSt, isii, isib, isitt, idxT, idxR, at20, at21, at2m, at30, at31, at32, at3m, at40, at41, at42, at43, at4m, seqT, seqR, sqT, sqR, asT, asR, zipT, zipR, enuR, n_isN, n_isT, n_isI, n_isL, n_isS, d_bnd, g_nm, g_tp, g_nil, g_cons, Option.map_some, Option.map_none, Option.bind_some, if_true, if_false, Bool.false_eq_true, Bool.not_true, Bool.not_false, List.set_cons_zero, List.set_cons_succ, decide_true, decide_false, reduceCtorEq, e, e2]
/-! ### the law's fractions -/
theorem c_frac (n : Nat) (t b : Int) (μ : Sto) (hb : b ≠ 0) (hb2 : b.natAbs < 2 ^ 8000) : CN (n + 2) "_law_frac" [.int t, .int b] μ = .ok (fD (frc t b)) μ := by
  have hw := bigW hb2 (by decide)
  have h0 : 0 < Int.gcd t b := Int.gcd_pos_of_ne_zero_right _ hb
  have hs : sg b (Int.gcd t b) ≠ 0 := sg_ne (by omega)
  have ha : (sg b (Int.gcd t b)).natAbs < MID := by
    rw [sg_abs]
    refine lt_mid ?_ (Nat.le_refl 8000)
    have : Int.gcd t b ≤ b.natAbs := Nat.gcd_le_right _ (by omega)
    omega
  rw [st__law_frac]; unfold b__law_frac
  simp (disch := first | assumption | first | assumption | rfl | exact lt_big (by (repeat' first | assumption | exact (show _ < 2 ^ 64 by decide) | apply mul_bd | apply add_bd | apply sub_bd | apply neg_bd)) (by decide) | exact lt_mid (by (repeat' first | assumption | exact (show _ < 2 ^ 64 by decide) | apply mul_bd | apply add_bd | apply sub_bd | apply neg_bd)) (by decide) | exact bigW (by (repeat' first | assumption | exact (show _ < 2 ^ 64 by decide) | apply mul_bd | apply add_bd | apply sub_bd | apply neg_bd)) (by decide)) only [obx, osx, s_rai, fl_ex, if_ex, ec_ex, en_ex, cut_samex, v_hrd, hr_ok, hr_ex, v_isE, t_isE, isE_err, v_fld, fld_err, v_isB, t_isB, isb_b, v_rev, revR, n_isE, or_true, true_or, or_false, false_or, and_true, true_and, and_false, false_and, or_self, and_self, not_false_eq_true, not_true_eq_false, ite_self, lcD_rng, forS_rng, fuel_rng, rng2, rng3, rng4, rngI2, rngI3, rngI4, rng8, rngI8, all0, all1, all2, all3, Bool.and_true, Bool.true_and, Bool.and_false, Bool.false_and, Sto.put_put, ib, ist, ifl, iif, ien, icu, jI, jB, jT, andB, orB, andC, orC, notB, decide_eq_true_eq, cut_same, cut_pp, v_lcm, fuel_itm, lcD_itm, forS_itm, s_for, m_nil, m_cons, mc_some, mc_none, imc, lt_def, yes_def, dt_none, dt_some, w_nil, w_cons, own_nil, own_cons, z_nil, z_nil2, z_cons, e_nil, e_cons, lk0, lk1, lk2, lk3, lk4, ea_nil, ea_cons, ec_nx, ec_ct, ec_bk, ec_rt, iec, List.nil_append, List.cons_append, ob, os, oo, ol, q_cons, q_nil, fl_nx, fl_rt, if_yes, if_no, if_ok, en_rt, en_nx, s_set, s_setLc, s_ret, s_retN, s_dro, s_ife, s_par, s_par3, s_tgt, v_var, v_cst, v_glo, v_tup, v_lst, v_tupS, v_lstS, v_mls, v_bin, v_neg, v_not, t_not, v_cmp, t_cmp, v_chn, t_chn, v_isN, t_isN, v_and, v_or, t_and, t_or, v_ife, t_ife, v_idx, v_slc, v_cal, t_cal, v_blt, t_blt, v_isi, t_isi, t_var, v_lrg, v_rpr, v_frz, n_nil, n_cons, f_nil, f_cons, f_star, o_none, o_some, i_seq, i_rng1, i_rng2, i_zip, i_enu, var_0, var_s, cl_call, bAdd, bSub, cLt, cLe, cGt, cGe, cEq, cNe, cEqR, cNeR, nNeg, tBl, tIn, aAbs, aInt, aIntB, aMin, aMax, aLenT, aLenR, aTupT, aTupR, aLstR, aLstT, lq0, lq1, lq2, lq3, lq4, lq5, lq6, isiI, isiB, isiT, isiL, isiN, isiSt, isii, isib, isitt, idxT, idxR, at20, at21, at2m, at30, at31, at32, at3m, at40, at41, at42, at43, at4m, seqT, seqR, sqT, sqR, asT, asR, zipT, zipR, enuR, n_isN, n_isT, n_isI, n_isL, n_isS, d_bnd, g_nm, g_tp, g_nil, g_cons, Option.map_some, Option.map_none, Option.bind_some, if_true, if_false, Bool.false_eq_true, Bool.not_true, Bool.not_false, List.set_cons_zero, List.set_cons_succ, decide_true, decide_false, reduceCtorEq, c_frac_common, sg_if, bDiv, frc]
theorem pls_b {p q : Fr} {a b : Nat} (hp : p.2 ≠ 0) (hq : q.2 ≠ 0) (bp : BdF p a) (bq : BdF q b) : BdF (pls p q) (a + b + 1) :=
  frc_bd (Int.mul_ne_zero hp hq) (le_bd (add_bd (mul_bd bp.1 bq.2) (mul_bd bq.1 bp.2)) (by omega)) (le_bd (mul_bd bp.2 bq.2) (by omega))
theorem lss_b {p q : Fr} {a b : Nat} (hp : p.2 ≠ 0) (hq : q.2 ≠ 0) (bp : BdF p a) (bq : BdF q b) : BdF (lss p q) (a + b + 1) :=
  frc_bd (Int.mul_ne_zero hp hq) (le_bd (sub_bd (mul_bd bp.1 bq.2) (mul_bd bq.1 bp.2)) (by omega)) (le_bd (mul_bd bp.2 bq.2) (by omega))
theorem tms_b {p q : Fr} {a b : Nat} (hp : p.2 ≠ 0) (hq : q.2 ≠ 0) (bp : BdF p a) (bq : BdF q b) : BdF (tms p q) (a + b) :=
  frc_bd (Int.mul_ne_zero hp hq) (mul_bd bp.1 bq.1) (mul_bd bp.2 bq.2)
theorem ovr_b {p q : Fr} {a b : Nat} (hp : p.2 ≠ 0) (hq : q.1 ≠ 0) (bp : BdF p a) (bq : BdF q b) : BdF (ovr p q) (a + b) :=
  frc_bd (Int.mul_ne_zero hp hq) (mul_bd bp.1 bq.2) (mul_bd bp.2 bq.1)
theorem pls_ne {p q : Fr} (hp : p.2 ≠ 0) (hq : q.2 ≠ 0) : (pls p q).2 ≠ 0 := red_ne (pls_ok hp hq).1
theorem lss_ne {p q : Fr} (hp : p.2 ≠ 0) (hq : q.2 ≠ 0) : (lss p q).2 ≠ 0 := red_ne (lss_ok hp hq).1
theorem tms_ne {p q : Fr} (hp : p.2 ≠ 0) (hq : q.2 ≠ 0) : (tms p q).2 ≠ 0 := red_ne (tms_ok hp hq).1
theorem ovr_ne {p q : Fr} (hp : p.2 ≠ 0) (hq : q.1 ≠ 0) : (ovr p q).2 ≠ 0 := red_ne (ovr_ok hp hq).1
theorem c_plus (n : Nat) (p q : Fr) (μ : Sto) (hp : p.2 ≠ 0) (hq : q.2 ≠ 0) (bp : BdF p 3900) (bq : BdF q 3900) : CN (n + 3) "_law_frac_plus" [fD p, fD q] μ = .ok (fD (pls p q)) μ := by
  obtain ⟨p1, p2⟩ := bp
  obtain ⟨q1, q2⟩ := bq
  have e := c_frac n (p.1 * q.2 + q.1 * p.2) (p.2 * q.2) μ (Int.mul_ne_zero hp hq) (le_bd (mul_bd p2 q2) (by decide))
  rw [st__law_frac_plus]; unfold b__law_frac_plus
  simp (disch := first | assumption | rfl | exact lt_big (by (repeat' first | assumption | exact (show _ < 2 ^ 64 by decide) | apply mul_bd | apply add_bd | apply sub_bd | apply neg_bd)) (by decide) | exact lt_mid (by (repeat' first | assumption | exact (show _ < 2 ^ 64 by decide) | apply mul_bd | apply add_bd | apply sub_bd | apply neg_bd)) (by decide) | exact bigW (by (repeat' first | assumption | exact (show _ < 2 ^ 64 by decide) | apply mul_bd | apply add_bd | apply sub_bd | apply neg_bd)) (by decide)) only [obx, osx, s_rai, fl_ex, if_ex, ec_ex, en_ex, cut_samex, v_hrd, hr_ok, hr_ex, v_isE, t_isE, isE_err, v_fld, fld_err, v_isB, t_isB, isb_b, v_rev, revR, n_isE, or_true, true_or, or_false, false_or, and_true, true_and, and_false, false_and, or_self, and_self, not_false_eq_true, not_true_eq_false, ite_self, lcD_rng, forS_rng, fuel_rng, rng2, rng3, rng4, rngI2, rngI3, rngI4, rng8, rngI8, all0, all1, all2, all3, Bool.and_true, Bool.true_and, Bool.and_false, Bool.false_and, Sto.put_put, ib, ist, ifl, iif, ien, icu, jI, jB, jT, andB, orB, andC, orC, notB, decide_eq_true_eq, cut_same, cut_pp, v_lcm, fuel_itm, lcD_itm, forS_itm, s_for, m_nil, m_cons, mc_some, mc_none, imc, lt_def, yes_def, dt_none, dt_some, w_nil, w_cons, own_nil, own_cons, z_nil, z_nil2, z_cons, e_nil, e_cons, lk0, lk1, lk2, lk3, lk4, ea_nil, ea_cons, ec_nx, ec_ct, ec_bk, ec_rt, iec, List.nil_append, List.cons_append, ob, os, oo, ol, q_cons, q_nil, fl_nx, fl_rt, if_yes, if_no, if_ok, en_rt, en_nx, s_set, s_setLc, s_ret, s_retN, s_dro, s_ife, s_par, s_par3, s_tgt, v_var, v_cst, v_glo, v_tup, v_lst, v_tupS, v_lstS, v_mls, v_bin, v_neg, v_not, t_not, v_cmp, t_cmp, v_chn, t_chn, v_isN, t_isN, v_and, v_or, t_and, t_or, v_ife, t_ife, v_idx, v_slc, v_cal, t_cal, v_blt, t_blt, v_isi, t_isi, t_var, v_lrg, v_rpr, v_frz, n_nil, n_cons, f_nil, f_cons, f_star, o_none, o_some, i_seq, i_rng1, i_rng2, i_zip, i_enu, var_0, var_s, cl_call, bAdd, bSub, cLt, cLe, cGt, cGe, cEq, cNe, cEqR, cNeR, nNeg, tBl, tIn, aAbs, aInt, aIntB, aMin, aMax, aLenT, aLenR, aTupT, aTupR, aLstR, aLstT, lq0, lq1, lq2, lq3, lq4, lq5, lq6, isiI, isiB, isiT, isiL, isiN, isiSt, isii, isib, isitt, idxT, idxR, at20, at21, at2m, at30, at31, at32, at3m, at40, at41, at42, at43, at4m, seqT, seqR, sqT, sqR, asT, asR, zipT, zipR, enuR, n_isN, n_isT, n_isI, n_isL, n_isS, d_bnd, g_nm, g_tp, g_nil, g_cons, Option.map_some, Option.map_none, Option.bind_some, if_true, if_false, Bool.false_eq_true, Bool.not_true, Bool.not_false, List.set_cons_zero, List.set_cons_succ, decide_true, decide_false, reduceCtorEq, bMul, e, pls]
theorem c_times (n : Nat) (p q : Fr) (μ : Sto) (hp : p.2 ≠ 0) (hq : q.2 ≠ 0) (bp : BdF p 3900) (bq : BdF q 3900) : CN (n + 3) "_law_frac_times" [fD p, fD q] μ = .ok (fD (tms p q)) μ := by
  obtain ⟨p1, p2⟩ := bp
  obtain ⟨q1, q2⟩ := bq
  have e := c_frac n (p.1 * q.1) (p.2 * q.2) μ (Int.mul_ne_zero hp hq) (le_bd (mul_bd p2 q2) (by decide))
  rw [st__law_frac_times]; unfold b__law_frac_times
  simp (disch := first | assumption | rfl | exact lt_big (by (repeat' first | assumption | exact (show _ < 2 ^ 64 by decide) | apply mul_bd | apply add_bd | apply sub_bd | apply neg_bd)) (by decide) | exact lt_mid (by (repeat' first | assumption | exact (show _ < 2 ^ 64 by decide) | apply mul_bd | apply add_bd | apply sub_bd | apply neg_bd)) (by decide) | exact bigW (by (repeat' first | assumption | exact (show _ < 2 ^ 64 by decide) | apply mul_bd | apply add_bd | apply sub_bd | apply neg_bd)) (by decide)) only [obx, osx, s_rai, fl_ex, if_ex, ec_ex, en_ex, cut_samex, v_hrd, hr_ok, hr_ex, v_isE, t_isE, isE_err, v_fld, fld_err, v_isB, t_isB, isb_b, v_rev, revR, n_isE, or_true, true_or, or_false, false_or, and_true, true_and, and_false, false_and, or_self, and_self, not_false_eq_true, not_true_eq_false, ite_self, lcD_rng, forS_rng, fuel_rng, rng2, rng3, rng4, rngI2, rngI3, rngI4, rng8, rngI8, all0, all1, all2, all3, Bool.and_true, Bool.true_and, Bool.and_false, Bool.false_and, Sto.put_put, ib, ist, ifl, iif, ien, icu, jI, jB, jT, andB, orB, andC, orC, notB, decide_eq_true_eq, cut_same, cut_pp, v_lcm, fuel_itm, lcD_itm, forS_itm, s_for, m_nil, m_cons, mc_some, mc_none, imc, lt_def, yes_def, dt_none, dt_some, w_nil, w_cons, own_nil, own_cons, z_nil, z_nil2, z_cons, e_nil, e_cons, lk0, lk1, lk2, lk3, lk4, ea_nil, ea_cons, ec_nx, ec_ct, ec_bk, ec_rt, iec, List.nil_append, List.cons_append, ob, os, oo, ol, q_cons, q_nil, fl_nx, fl_rt, if_yes, if_no, if_ok, en_rt, en_nx, s_set, s_setLc, s_ret, s_retN, s_dro, s_ife, s_par, s_par3, s_tgt, v_var, v_cst, v_glo, v_tup, v_lst, v_tupS, v_lstS, v_mls, v_bin, v_neg, v_not, t_not, v_cmp, t_cmp, v_chn, t_chn, v_isN, t_isN, v_and, v_or, t_and, t_or, v_ife, t_ife, v_idx, v_slc, v_cal, t_cal, v_blt, t_blt, v_isi, t_isi, t_var, v_lrg, v_rpr, v_frz, n_nil, n_cons, f_nil, f_cons, f_star, o_none, o_some, i_seq, i_rng1, i_rng2, i_zip, i_enu, var_0, var_s, cl_call, bAdd, bSub, cLt, cLe, cGt, cGe, cEq, cNe, cEqR, cNeR, nNeg, tBl, tIn, aAbs, aInt, aIntB, aMin, aMax, aLenT, aLenR, aTupT, aTupR, aLstR, aLstT, lq0, lq1, lq2, lq3, lq4, lq5, lq6, isiI, isiB, isiT, isiL, isiN, isiSt, isii, isib, isitt, idxT, idxR, at20, at21, at2m, at30, at31, at32, at3m, at40, at41, at42, at43, at4m, seqT, seqR, sqT, sqR, asT, asR, zipT, zipR, enuR, n_isN, n_isT, n_isI, n_isL, n_isS, d_bnd, g_nm, g_tp, g_nil, g_cons, Option.map_some, Option.map_none, Option.bind_some, if_true, if_false, Bool.false_eq_true, Bool.not_true, Bool.not_false, List.set_cons_zero, List.set_cons_succ, decide_true, decide_false, reduceCtorEq, bMul, e, tms]
theorem c_told (n : Nat) (a : Fr × Fr) (μ : Sto) (ra : RedP a) (b1 : BdF a.1 7900) (b2 : BdF a.2 7900) : CN (n + 2) "_law_point_told" [pqD a] μ = .ok (pD (toldP a)) μ := by
  obtain ⟨p1, p2⟩ := b1
  obtain ⟨q1, q2⟩ := b2
  have h1 := ra.1.pos
  have h2 := ra.2.pos
  have hg : (0 : Int) < (Int.gcd a.1.2 a.2.2 : Int) := by
    have := Int.gcd_pos_of_ne_zero_right a.1.2 (show a.2.2 ≠ 0 by omega)
    omega
  have hg0 : (Int.gcd a.1.2 a.2.2 : Int) ≠ 0 := by omega
  have hgm : (Int.gcd a.1.2 a.2.2 : Int).natAbs < MID := by
    refine lt_mid ?_ (show 7900 ≤ 8000 by decide)
    have : Int.gcd a.1.2 a.2.2 ≤ a.2.2.natAbs := Nat.gcd_le_right _ (by omega)
    omega
  have d1 : (a.1.2.fdiv (Int.gcd a.1.2 a.2.2)).natAbs < 2 ^ 7900 := Nat.lt_of_le_of_lt (fdiv_abs (by omega) hg) p2
  have d2 : (a.2.2.fdiv (Int.gcd a.1.2 a.2.2)).natAbs < 2 ^ 7900 := Nat.lt_of_le_of_lt (fdiv_abs (by omega) hg) q2
  rw [st__law_point_told]; unfold b__law_point_told
  simp (disch := first | assumption | first | assumption | rfl | exact lt_big (by (repeat' first | assumption | exact (show _ < 2 ^ 64 by decide) | apply mul_bd | apply add_bd | apply sub_bd | apply neg_bd)) (by decide) | exact lt_mid (by (repeat' first | assumption | exact (show _ < 2 ^ 64 by decide) | apply mul_bd | apply add_bd | apply sub_bd | apply neg_bd)) (by decide) | exact bigW (by (repeat' first | assumption | exact (show _ < 2 ^ 64 by decide) | apply mul_bd | apply add_bd | apply sub_bd | apply neg_bd)) (by decide)) only [obx, osx, s_rai, fl_ex, if_ex, ec_ex, en_ex, cut_samex, v_hrd, hr_ok, hr_ex, v_isE, t_isE, isE_err, v_fld, fld_err, v_isB, t_isB, isb_b, v_rev, revR, n_isE, or_true, true_or, or_false, false_or, and_true, true_and, and_false, false_and, or_self, and_self, not_false_eq_true, not_true_eq_false, ite_self, lcD_rng, forS_rng, fuel_rng, rng2, rng3, rng4, rngI2, rngI3, rngI4, rng8, rngI8, all0, all1, all2, all3, Bool.and_true, Bool.true_and, Bool.and_false, Bool.false_and, Sto.put_put, ib, ist, ifl, iif, ien, icu, jI, jB, jT, andB, orB, andC, orC, notB, decide_eq_true_eq, cut_same, cut_pp, v_lcm, fuel_itm, lcD_itm, forS_itm, s_for, m_nil, m_cons, mc_some, mc_none, imc, lt_def, yes_def, dt_none, dt_some, w_nil, w_cons, own_nil, own_cons, z_nil, z_nil2, z_cons, e_nil, e_cons, lk0, lk1, lk2, lk3, lk4, ea_nil, ea_cons, ec_nx, ec_ct, ec_bk, ec_rt, iec, List.nil_append, List.cons_append, ob, os, oo, ol, q_cons, q_nil, fl_nx, fl_rt, if_yes, if_no, if_ok, en_rt, en_nx, s_set, s_setLc, s_ret, s_retN, s_dro, s_ife, s_par, s_par3, s_tgt, v_var, v_cst, v_glo, v_tup, v_lst, v_tupS, v_lstS, v_mls, v_bin, v_neg, v_not, t_not, v_cmp, t_cmp, v_chn, t_chn, v_isN, t_isN, v_and, v_or, t_and, t_or, v_ife, t_ife, v_idx, v_slc, v_cal, t_cal, v_blt, t_blt, v_isi, t_isi, t_var, v_lrg, v_rpr, v_frz, n_nil, n_cons, f_nil, f_cons, f_star, o_none, o_some, i_seq, i_rng1, i_rng2, i_zip, i_enu, var_0, var_s, cl_call, bAdd, bSub, cLt, cLe, cGt, cGe, cEq, cNe, cEqR, cNeR, nNeg, tBl, tIn, aAbs, aInt, aIntB, aMin, aMax, aLenT, aLenR, aTupT, aTupR, aLstR, aLstT, lq0, lq1, lq2, lq3, lq4, lq5, lq6, isiI, isiB, isiT, isiL, isiN, isiSt, isii, isib, isitt, idxT, idxR, at20, at21, at2m, at30, at31, at32, at3m, at40, at41, at42, at43, at4m, seqT, seqR, sqT, sqR, asT, asR, zipT, zipR, enuR, n_isN, n_isT, n_isI, n_isL, n_isS, d_bnd, g_nm, g_tp, g_nil, g_cons, Option.map_some, Option.map_none, Option.bind_some, if_true, if_false, Bool.false_eq_true, Bool.not_true, Bool.not_false, List.set_cons_zero, List.set_cons_succ, decide_true, decide_false, reduceCtorEq, c_frac_common, bDiv, bMul, toldP, told]
/-! ### draws -/
structure Pt where
  a : Int
  b : Int
  c : Int
def potL (s : Pt) : O := .lst [.int s.a, .int s.b, .int s.c]
structure V (k : Int) (s : Pt) : Prop where
  a0 : 0 ≤ s.a
  a1 : s.a.natAbs < 2 ^ 1000
  b0 : 0 ≤ s.b
  b1 : s.b.natAbs < 2 ^ 62
  c0 : 0 ≤ s.c
  ck : s.c ≤ k
theorem V.mono {k l : Int} {s : Pt} (h : V k s) (g : k ≤ l) : V l s := ⟨h.a0, h.a1, h.b0, h.b1, h.c0, Int.le_trans h.ck g⟩
theorem get_pot {μ : Sto} {p : Nat} {s : Pt} (hp : p < μ.sz) : (μ.put p (potL s)).get p = some (.lst [.int s.a, .int s.b, .int s.c]) := Sto.get_put_same _ _ _ hp
theorem atI_in {ds : List D} {i : Int} (h0 : 0 ≤ i) (h1 : i < ds.length) : ∃ d, d ∈ ds ∧ atI ds i = some d := by
  have hl : i.toNat < ds.length := by omega
  refine ⟨ds[i.toNat], List.getElem_mem hl, ?_⟩
  unfold atI ixN
  simp [h0, h1, hl]
theorem prime_at {c : Int} (h : 0 ≤ c) : ∃ p : Int, atI [D.int 2147483647, D.int 2147483629, D.int 2147483587, D.int 2147483579, D.int 2147483563] (c.fmod 5) = some (.int p) ∧ 0 < p ∧ p < 2 ^ 31 := by
  have h1 : c.fmod 5 = c % 5 := Int.fmod_eq_emod_of_nonneg _ (by omega)
  rw [h1]
  have h2 : c % 5 = 0 ∨ c % 5 = 1 ∨ c % 5 = 2 ∨ c % 5 = 3 ∨ c % 5 = 4 := by omega
  rcases h2 with e | e | e | e | e <;> rw [e] <;> exact ⟨_, rfl, by decide, by decide⟩
theorem fmod_b {a u : Int} (hu : 0 < u) : 0 ≤ a.fmod u ∧ a.fmod u < u := ⟨Int.fmod_nonneg_of_pos _ hu, Int.fmod_lt_of_pos _ hu⟩
theorem fdiv_b {a u : Int} (ha : 0 ≤ a) (hu : 0 < u) : 0 ≤ a.fdiv u ∧ a.fdiv u ≤ a := by
  rw [Int.fdiv_eq_ediv_of_nonneg _ (by omega)]
  exact ⟨Int.ediv_nonneg ha (by omega), Int.ediv_le_self _ ha⟩
theorem c_take (n : Nat) (p : Nat) (k u : Int) (μ : Sto) (s : Pt) (hp : p < μ.sz) (h : V k s) (hk : k ≤ 1000000000) (hu : 0 < u) (hub : u.natAbs < 2 ^ 62) : ∃ (r : Int) (s' : Pt), CN (n + 1) "_law_take" [.obj p, .int u] (μ.put p (potL s)) = .ok (.int r) (μ.put p (potL s')) ∧ 0 ≤ r ∧ r < u ∧ V (k + 1) s' := by
  obtain ⟨a, b, c⟩ := s
  obtain ⟨ha, hab, hb, hbb, hc, hck⟩ := h
  simp only at ha hab hb hbb hc hck
  have hu0 : u ≠ 0 := by omega
  have hum := lt_mid hub (by decide)
  have hg := get_pot (s := ⟨a, b, c⟩) hp
  simp only at hg
  by_cases h0 : 0 < a
  · have fb := fmod_b (a := a) hu
    have db := fdiv_b ha hu
    refine ⟨a.fmod u, ⟨a.fdiv u, b, c⟩, ?_, fb.1, fb.2, ⟨db.1, by show (a.fdiv u).natAbs < _; omega, hb, hbb, hc, by show c ≤ k + 1; omega⟩⟩
    rw [st__law_take]; unfold b__law_take
    simp only [obx, osx, s_rai, fl_ex, if_ex, ec_ex, en_ex, cut_samex, v_hrd, hr_ok, hr_ex, v_isE, t_isE, isE_err, v_fld, fld_err, v_isB, t_isB, isb_b, v_rev, revR, n_isE, or_true, true_or, or_false, false_or, and_true, true_and, and_false, false_and, or_self, and_self, not_false_eq_true, not_true_eq_false, ite_self, lcD_rng, forS_rng, fuel_rng, rng2, rng3, rng4, rngI2, rngI3, rngI4, rng8, rngI8, all0, all1, all2, all3, Bool.and_true, Bool.true_and, Bool.and_false, Bool.false_and, Sto.put_put, ib, ist, ifl, iif, ien, icu, jI, jB, jT, andB, orB, andC, orC, notB, decide_eq_true_eq, cut_same, cut_pp, v_lcm, fuel_itm, lcD_itm, forS_itm, s_for, m_nil, m_cons, mc_some, mc_none, imc, lt_def, yes_def, dt_none, dt_some, w_nil, w_cons, own_nil, own_cons, z_nil, z_nil2, z_cons, e_nil, e_cons, lk0, lk1, lk2, lk3, lk4, ea_nil, ea_cons, ec_nx, ec_ct, ec_bk, ec_rt, iec, List.nil_append, List.cons_append, ob, os, oo, ol, q_cons, q_nil, fl_nx, fl_rt, if_yes, if_no, if_ok, en_rt, en_nx, s_set, s_setLc, s_ret, s_retN, s_dro, s_ife, s_par, s_par3, s_tgt, v_var, v_cst, v_glo, v_tup, v_lst, v_tupS, v_lstS, v_mls, v_bin, v_neg, v_not, t_not, v_cmp, t_cmp, v_chn, t_chn, v_isN, t_isN, v_and, v_or, t_and, t_or, v_ife, t_ife, v_idx, v_slc, v_cal, t_cal, v_blt, t_blt, v_isi, t_isi, t_var, v_lrg, v_rpr, v_frz, n_nil, n_cons, f_nil, f_cons, f_star, o_none, o_some, i_seq, i_rng1, i_rng2, i_zip, i_enu, var_0, var_s, cl_call, bAdd, bSub, cLt, cLe, cGt, cGe, cEq, cNe, cEqR, cNeR, nNeg, tBl, tIn, aAbs, aInt, aIntB, aMin, aMax, aLenT, aLenR, aTupT, aTupR, aLstR, aLstT, lq0, lq1, lq2, lq3, lq4, lq5, lq6, isiI, isiB, isiT, isiL, isiN, isiSt, isii, isib, isitt, idxT, idxR, at20, at21, at2m, at30, at31, at32, at3m, at40, at41, at42, at43, at4m, seqT, seqR, sqT, sqR, asT, asR, zipT, zipR, enuR, n_isN, n_isT, n_isI, n_isL, n_isS, d_bnd, g_nm, g_tp, g_nil, g_cons, Option.map_some, Option.map_none, Option.bind_some, if_true, if_false, Bool.false_eq_true, Bool.not_true, Bool.not_false, List.set_cons_zero, List.set_cons_succ, decide_true, decide_false, reduceCtorEq, idxO hg, h0, bMod hu0, s_sub, bDiv hu0 hum, setO0 hg, cut_put]
    rfl
  · obtain ⟨pr, ep, pp, pb⟩ := prime_at (c := c + 1) (by omega)
    have hpr0 : pr ≠ 0 := by omega
    have hcb : (c + 1).natAbs < 2 ^ 31 := by omega
    have m1 := mul_bd (show (99548 : Int).natAbs < 2 ^ 19 by decide) hcb
    have m2 := mul_bd m1 hcb
    have s1 := add_bd hbb m2
    have s2 := add_bd s1 (show (846 : Int).natAbs < 2 ^ 17 by decide)
    have n3 := lt_mid s2 (by decide)
    have bl := fmod_b (a := (b + 99548 * (c + 1) * (c + 1) + 846) ^ (3 : Int).toNat) pp
    generalize hbl : ((b + 99548 * (c + 1) * (c + 1) + 846) ^ (3 : Int).toNat).fmod pr = bl1 at bl
    have blb : bl1.natAbs < 2 ^ 31 := by omega
    have fm := fmod_b (a := bl1) (show (0 : Int) < 10614 by decide)
    have fmb : (bl1.fmod 10614).natAbs < 2 ^ 17 := by omega
    have dd := fmod_b (a := ((bl1 * (bl1.fmod 10614 + 202 * (c + 1))).fmod 2305843009213693907).fdiv 167) hu
    have hg1 : (μ.put p (.lst [.int a, .int b, .int (c + 1)])).get p = some (.lst [.int a, .int b, .int (c + 1)]) := Sto.get_put_same _ _ _ hp
    refine ⟨_, ⟨a, b, c + 1⟩, ?_, dd.1, dd.2, ⟨ha, hab, hb, hbb, by show 0 ≤ c + 1; omega, by show c + 1 ≤ k + 1; omega⟩⟩
    rw [st__law_take]; unfold b__law_take
    simp (disch := first | assumption | first | assumption | rfl | exact lt_big (by (repeat' first | assumption | exact (show _ < 2 ^ 64 by decide) | apply mul_bd | apply add_bd | apply sub_bd | apply neg_bd)) (by decide) | exact lt_mid (by (repeat' first | assumption | exact (show _ < 2 ^ 64 by decide) | apply mul_bd | apply add_bd | apply sub_bd | apply neg_bd)) (by decide) | exact bigW (by (repeat' first | assumption | exact (show _ < 2 ^ 64 by decide) | apply mul_bd | apply add_bd | apply sub_bd | apply neg_bd)) (by decide)) only [obx, osx, s_rai, fl_ex, if_ex, ec_ex, en_ex, cut_samex, v_hrd, hr_ok, hr_ex, v_isE, t_isE, isE_err, v_fld, fld_err, v_isB, t_isB, isb_b, v_rev, revR, n_isE, or_true, true_or, or_false, false_or, and_true, true_and, and_false, false_and, or_self, and_self, not_false_eq_true, not_true_eq_false, ite_self, lcD_rng, forS_rng, fuel_rng, rng2, rng3, rng4, rngI2, rngI3, rngI4, rng8, rngI8, all0, all1, all2, all3, Bool.and_true, Bool.true_and, Bool.and_false, Bool.false_and, Sto.put_put, ib, ist, ifl, iif, ien, icu, jI, jB, jT, andB, orB, andC, orC, notB, decide_eq_true_eq, cut_same, cut_pp, v_lcm, fuel_itm, lcD_itm, forS_itm, s_for, m_nil, m_cons, mc_some, mc_none, imc, lt_def, yes_def, dt_none, dt_some, w_nil, w_cons, own_nil, own_cons, z_nil, z_nil2, z_cons, e_nil, e_cons, lk0, lk1, lk2, lk3, lk4, ea_nil, ea_cons, ec_nx, ec_ct, ec_bk, ec_rt, iec, List.nil_append, List.cons_append, ob, os, oo, ol, q_cons, q_nil, fl_nx, fl_rt, if_yes, if_no, if_ok, en_rt, en_nx, s_set, s_setLc, s_ret, s_retN, s_dro, s_ife, s_par, s_par3, s_tgt, v_var, v_cst, v_glo, v_tup, v_lst, v_tupS, v_lstS, v_mls, v_bin, v_neg, v_not, t_not, v_cmp, t_cmp, v_chn, t_chn, v_isN, t_isN, v_and, v_or, t_and, t_or, v_ife, t_ife, v_idx, v_slc, v_cal, t_cal, v_blt, t_blt, v_isi, t_isi, t_var, v_lrg, v_rpr, v_frz, n_nil, n_cons, f_nil, f_cons, f_star, o_none, o_some, i_seq, i_rng1, i_rng2, i_zip, i_enu, var_0, var_s, cl_call, bAdd, bSub, cLt, cLe, cGt, cGe, cEq, cNe, cEqR, cNeR, nNeg, tBl, tIn, aAbs, aInt, aIntB, aMin, aMax, aLenT, aLenR, aTupT, aTupR, aLstR, aLstT, lq0, lq1, lq2, lq3, lq4, lq5, lq6, isiI, isiB, isiT, isiL, isiN, isiSt, isii, isib, isitt, idxT, idxR, at20, at21, at2m, at30, at31, at32, at3m, at40, at41, at42, at43, at4m, seqT, seqR, sqT, sqR, asT, asR, zipT, zipR, enuR, n_isN, n_isT, n_isI, n_isL, n_isS, d_bnd, g_nm, g_tp, g_nil, g_cons, Option.map_some, Option.map_none, Option.bind_some, if_true, if_false, Bool.false_eq_true, Bool.not_true, Bool.not_false, List.set_cons_zero, List.set_cons_succ, decide_true, decide_false, reduceCtorEq, idxO hg, h0, s_sub, setO2 hg, idxO hg1, bMod (show (5 : Int) ≠ 0 by decide), ep, bMul, bPow (show (0 : Int) ≤ 3 by decide) (show (3 : Int) ≤ 10000 by decide) n3, bMod hpr0, hbl, bMod (show (10614 : Int) ≠ 0 by decide), bMod (show (2305843009213693907 : Int) ≠ 0 by decide), bDiv (show (167 : Int) ≠ 0 by decide), bMod hu0]
    rfl
theorem c_of (n p : Nat) (ds : List D) (k : Int) (μ : Sto) (s : Pt) (hp : p < μ.sz) (h : V k s) (hk : k ≤ 1000000000) (h0 : 0 < ds.length) (h1 : ds.length < 1000000) : ∃ (d : D) (s' : Pt), CN (n + 2) "_law_of" [.obj p, .rol ds] (μ.put p (potL s)) = .ok d (μ.put p (potL s')) ∧ d ∈ ds ∧ V (k + 1) s' := by
  obtain ⟨i, s', e, i0, i1, v⟩ := c_take n p k ds.length μ s hp h hk (by omega) (by omega)
  obtain ⟨d, hd, ed⟩ := atI_in i0 i1
  refine ⟨d, s', ?_, hd, v⟩
  rw [st__law_of]; unfold b__law_of
  simp only [obx, osx, s_rai, fl_ex, if_ex, ec_ex, en_ex, cut_samex, v_hrd, hr_ok, hr_ex, v_isE, t_isE, isE_err, v_fld, fld_err, v_isB, t_isB, isb_b, v_rev, revR, n_isE, or_true, true_or, or_false, false_or, and_true, true_and, and_false, false_and, or_self, and_self, not_false_eq_true, not_true_eq_false, ite_self, lcD_rng, forS_rng, fuel_rng, rng2, rng3, rng4, rngI2, rngI3, rngI4, rng8, rngI8, all0, all1, all2, all3, Bool.and_true, Bool.true_and, Bool.and_false, Bool.false_and, Sto.put_put, ib, ist, ifl, iif, ien, icu, jI, jB, jT, andB, orB, andC, orC, notB, decide_eq_true_eq, cut_same, cut_pp, v_lcm, fuel_itm, lcD_itm, forS_itm, s_for, m_nil, m_cons, mc_some, mc_none, imc, lt_def, yes_def, dt_none, dt_some, w_nil, w_cons, own_nil, own_cons, z_nil, z_nil2, z_cons, e_nil, e_cons, lk0, lk1, lk2, lk3, lk4, ea_nil, ea_cons, ec_nx, ec_ct, ec_bk, ec_rt, iec, List.nil_append, List.cons_append, ob, os, oo, ol, q_cons, q_nil, fl_nx, fl_rt, if_yes, if_no, if_ok, en_rt, en_nx, s_set, s_setLc, s_ret, s_retN, s_dro, s_ife, s_par, s_par3, s_tgt, v_var, v_cst, v_glo, v_tup, v_lst, v_tupS, v_lstS, v_mls, v_bin, v_neg, v_not, t_not, v_cmp, t_cmp, v_chn, t_chn, v_isN, t_isN, v_and, v_or, t_and, t_or, v_ife, t_ife, v_idx, v_slc, v_cal, t_cal, v_blt, t_blt, v_isi, t_isi, t_var, v_lrg, v_rpr, v_frz, n_nil, n_cons, f_nil, f_cons, f_star, o_none, o_some, i_seq, i_rng1, i_rng2, i_zip, i_enu, var_0, var_s, cl_call, bAdd, bSub, cLt, cLe, cGt, cGe, cEq, cNe, cEqR, cNeR, nNeg, tBl, tIn, aAbs, aInt, aIntB, aMin, aMax, aLenT, aLenR, aTupT, aTupR, aLstR, aLstT, lq0, lq1, lq2, lq3, lq4, lq5, lq6, isiI, isiB, isiT, isiL, isiN, isiSt, isii, isib, isitt, idxT, idxR, at20, at21, at2m, at30, at31, at32, at3m, at40, at41, at42, at43, at4m, seqT, seqR, sqT, sqR, asT, asR, zipT, zipR, enuR, n_isN, n_isT, n_isI, n_isL, n_isS, d_bnd, g_nm, g_tp, g_nil, g_cons, Option.map_some, Option.map_none, Option.bind_some, if_true, if_false, Bool.false_eq_true, Bool.not_true, Bool.not_false, List.set_cons_zero, List.set_cons_succ, decide_true, decide_false, reduceCtorEq, e, ed]

end Rf



set_option Elab.async false
set_option linter.all false
set_option maxRecDepth 100000
set_option maxHeartbeats 4000000
/-! k05: plane -/
namespace Rf
open PySem PySem.Spec PyProof.Rows L2
/-! ### meetings -/
section
variable {p : Prop} [Decidable p] {μ : Sto}
theorem j2 {a b c d : D} : (if p then Out.ok (D.tup [a, b]) μ else .ok (.tup [c, d]) μ) = .ok (.tup [if p then a else c, if p then b else d]) μ := by split <;> rfl
theorem jP {A B : P3} : (if p then pD A else pD B) = pD (if p then A else B) := by split <;> rfl
theorem jPo {A B : P3} : (if p then Out.ok (pD A) μ else .ok (pD B) μ) = .ok (pD (if p then A else B)) μ := by split <;> rfl
theorem bd_ite {A B : P3} {e : Nat} (h : BdP A e) (g : BdP B e) : BdP (if p then A else B) e := by split <;> assumption
end
theorem eq3 {μ : Sto} {a b c x y z : Int} : eqD μ (.tup [.int a, .int b, .int c]) (.tup [.int x, .int y, .int z]) = some (decide (a = x ∧ b = y ∧ c = z)) := by
  have e1 : toPy μ FU (.tup [.int a, .int b, .int c]) = some (.tuple [.int a, .int b, .int c]) := rfl
  have e2 : toPy μ FU (.tup [.int x, .int y, .int z]) = some (.tuple [.int x, .int y, .int z]) := rfl
  unfold eqD
  simp only [e1, e2]
  simp [SeqAt.shaped, PyData.eqv]
  refine ⟨⟨⟨rfl, Nat.le_of_ble_eq_true rfl⟩, rfl, Nat.le_of_ble_eq_true rfl⟩, ?_⟩
  simp [PyData.eqvAll, PyData.eqv]
  by_cases h1 : a = x <;> by_cases h2 : b = y <;> by_cases h3 : c = z <;> simp [h1, h2, h3]
theorem eq2 {μ : Sto} {a b x y : Int} : eqD μ (.tup [.int a, .int b]) (.tup [.int x, .int y]) = some (decide (a = x ∧ b = y)) := by
  have e1 : toPy μ FU (.tup [.int a, .int b]) = some (.tuple [.int a, .int b]) := rfl
  have e2 : toPy μ FU (.tup [.int x, .int y]) = some (.tuple [.int x, .int y]) := rfl
  unfold eqD
  simp only [e1, e2]
  simp [SeqAt.shaped, PyData.eqv]
  refine ⟨⟨⟨rfl, Nat.le_of_ble_eq_true rfl⟩, rfl, Nat.le_of_ble_eq_true rfl⟩, ?_⟩
  simp [PyData.eqvAll, PyData.eqv]
  by_cases h1 : a = x <;> by_cases h2 : b = y <;> simp [h1, h2]
theorem p3_iff {P R : P3} : (P.1 = R.1 ∧ P.2.1 = R.2.1 ∧ P.2.2 = R.2.2) ↔ P = R := by
  obtain ⟨a, b, c⟩ := P
  obtain ⟨x, y, z⟩ := R
  simp
theorem cEqP {μ : Sto} {P R : P3} : cmpD μ .Eq (pD P) (pD R) = some (decide (P = R)) := by
  have e : cmpD μ .Eq (pD P) (pD R) = eqD μ (pD P) (pD R) := by unfold cmpD; rfl
  rw [e, eq3]
  exact congrArg some (decide_eq_decide.mpr p3_iff)
theorem cNeP {μ : Sto} {P R : P3} : cmpD μ .NotEq (pD P) (pD R) = some (!decide (P = R)) := by
  have e : cmpD μ .NotEq (pD P) (pD R) = (eqD μ (pD P) (pD R)).map not := by unfold cmpD; rfl
  rw [e, eq3, decide_eq_decide.mpr p3_iff]
  rfl
theorem cEq2 {μ : Sto} {a b x y : Int} : cmpD μ .Eq (.tup [.int a, .int b]) (.tup [.int x, .int y]) = some (decide (a = x ∧ b = y)) := by
  have e : cmpD μ .Eq (.tup [.int a, .int b]) (.tup [.int x, .int y]) = eqD μ (.tup [.int a, .int b]) (.tup [.int x, .int y]) := by unfold cmpD; rfl
  rw [e, eq2]
theorem cNe2 {μ : Sto} {a b x y : Int} : cmpD μ .NotEq (.tup [.int a, .int b]) (.tup [.int x, .int y]) = some (!decide (a = x ∧ b = y)) := by
  have e : cmpD μ .NotEq (.tup [.int a, .int b]) (.tup [.int x, .int y]) = (eqD μ (.tup [.int a, .int b]) (.tup [.int x, .int y])).map not := by unfold cmpD; rfl
  rw [e, eq2]
  rfl
theorem c_ahead (n : Nat) (P R : P3) (μ : Sto) (hP : BdP P 500000) (hR : BdP R 500000) : CN (n + 1) "is_ahead" [pD P, pD R] μ = .ok (.bl (ahead P R)) μ := by
  obtain ⟨p1, p2, p3⟩ := hP
  obtain ⟨r1, r2, r3⟩ := hR
  rw [st_is_ahead]; unfold b_is_ahead
  simp (disch := first | assumption | rfl | exact lt_big (by (repeat' first | assumption | exact (show _ < 2 ^ 64 by decide) | apply mul_bd | apply add_bd | apply sub_bd | apply neg_bd)) (by decide) | exact lt_mid (by (repeat' first | assumption | exact (show _ < 2 ^ 64 by decide) | apply mul_bd | apply add_bd | apply sub_bd | apply neg_bd)) (by decide) | exact bigW (by (repeat' first | assumption | exact (show _ < 2 ^ 64 by decide) | apply mul_bd | apply add_bd | apply sub_bd | apply neg_bd)) (by decide)) only [obx, osx, s_rai, fl_ex, if_ex, ec_ex, en_ex, cut_samex, v_hrd, hr_ok, hr_ex, v_isE, t_isE, isE_err, v_fld, fld_err, v_isB, t_isB, isb_b, v_rev, revR, n_isE, or_true, true_or, or_false, false_or, and_true, true_and, and_false, false_and, or_self, and_self, not_false_eq_true, not_true_eq_false, ite_self, lcD_rng, forS_rng, fuel_rng, rng2, rng3, rng4, rngI2, rngI3, rngI4, rng8, rngI8, all0, all1, all2, all3, Bool.and_true, Bool.true_and, Bool.and_false, Bool.false_and, Sto.put_put, ib, ist, ifl, iif, ien, icu, jI, jB, jT, andB, orB, andC, orC, notB, decide_eq_true_eq, cut_same, cut_pp, v_lcm, fuel_itm, lcD_itm, forS_itm, s_for, m_nil, m_cons, mc_some, mc_none, imc, lt_def, yes_def, dt_none, dt_some, w_nil, w_cons, own_nil, own_cons, z_nil, z_nil2, z_cons, e_nil, e_cons, lk0, lk1, lk2, lk3, lk4, ea_nil, ea_cons, ec_nx, ec_ct, ec_bk, ec_rt, iec, List.nil_append, List.cons_append, ob, os, oo, ol, q_cons, q_nil, fl_nx, fl_rt, if_yes, if_no, if_ok, en_rt, en_nx, s_set, s_setLc, s_ret, s_retN, s_dro, s_ife, s_par, s_par3, s_tgt, v_var, v_cst, v_glo, v_tup, v_lst, v_tupS, v_lstS, v_mls, v_bin, v_neg, v_not, t_not, v_cmp, t_cmp, v_chn, t_chn, v_isN, t_isN, v_and, v_or, t_and, t_or, v_ife, t_ife, v_idx, v_slc, v_cal, t_cal, v_blt, t_blt, v_isi, t_isi, t_var, v_lrg, v_rpr, v_frz, n_nil, n_cons, f_nil, f_cons, f_star, o_none, o_some, i_seq, i_rng1, i_rng2, i_zip, i_enu, var_0, var_s, cl_call, bAdd, bSub, cLt, cLe, cGt, cGe, cEq, cNe, cEqR, cNeR, nNeg, tBl, tIn, aAbs, aInt, aIntB, aMin, aMax, aLenT, aLenR, aTupT, aTupR, aLstR, aLstT, lq0, lq1, lq2, lq3, lq4, lq5, lq6, isiI, isiB, isiT, isiL, isiN, isiSt, isii, isib, isitt, idxT, idxR, at20, at21, at2m, at30, at31, at32, at3m, at40, at41, at42, at43, at4m, seqT, seqR, sqT, sqR, asT, asR, zipT, zipR, enuR, n_isN, n_isT, n_isI, n_isL, n_isS, d_bnd, g_nm, g_tp, g_nil, g_cons, Option.map_some, Option.map_none, Option.bind_some, if_true, if_false, Bool.false_eq_true, Bool.not_true, Bool.not_false, List.set_cons_zero, List.set_cons_succ, decide_true, decide_false, reduceCtorEq, bMul, ahead]
theorem c_overlap (n : Nat) (A B C E : P3) (μ : Sto) (hA : BdP A 500000) (hB : BdP B 500000) (hC : BdP C 500000) (hE : BdP E 500000) : CN (n + 2) "overlap_of" [pD A, pD B, pD C, pD E] μ = .ok (ovP A B C E) μ := by
  rw [st_overlap_of]; unfold b_overlap_of
  simp (disch := (repeat' first | assumption | apply bd_ite)) only [obx, osx, s_rai, fl_ex, if_ex, ec_ex, en_ex, cut_samex, v_hrd, hr_ok, hr_ex, v_isE, t_isE, isE_err, v_fld, fld_err, v_isB, t_isB, isb_b, v_rev, revR, n_isE, or_true, true_or, or_false, false_or, and_true, true_and, and_false, false_and, or_self, and_self, not_false_eq_true, not_true_eq_false, ite_self, lcD_rng, forS_rng, fuel_rng, rng2, rng3, rng4, rngI2, rngI3, rngI4, rng8, rngI8, all0, all1, all2, all3, Bool.and_true, Bool.true_and, Bool.and_false, Bool.false_and, Sto.put_put, ib, ist, ifl, iif, ien, icu, jI, jB, jT, andB, orB, andC, orC, notB, decide_eq_true_eq, cut_same, cut_pp, v_lcm, fuel_itm, lcD_itm, forS_itm, s_for, m_nil, m_cons, mc_some, mc_none, imc, lt_def, yes_def, dt_none, dt_some, w_nil, w_cons, own_nil, own_cons, z_nil, z_nil2, z_cons, e_nil, e_cons, lk0, lk1, lk2, lk3, lk4, ea_nil, ea_cons, ec_nx, ec_ct, ec_bk, ec_rt, iec, List.nil_append, List.cons_append, ob, os, oo, ol, q_cons, q_nil, fl_nx, fl_rt, if_yes, if_no, if_ok, en_rt, en_nx, s_set, s_setLc, s_ret, s_retN, s_dro, s_ife, s_par, s_par3, s_tgt, v_var, v_cst, v_glo, v_tup, v_lst, v_tupS, v_lstS, v_mls, v_bin, v_neg, v_not, t_not, v_cmp, t_cmp, v_chn, t_chn, v_isN, t_isN, v_and, v_or, t_and, t_or, v_ife, t_ife, v_idx, v_slc, v_cal, t_cal, v_blt, t_blt, v_isi, t_isi, t_var, v_lrg, v_rpr, v_frz, n_nil, n_cons, f_nil, f_cons, f_star, o_none, o_some, i_seq, i_rng1, i_rng2, i_zip, i_enu, var_0, var_s, cl_call, bAdd, bSub, cLt, cLe, cGt, cGe, cEq, cNe, cEqR, cNeR, nNeg, tBl, tIn, aAbs, aInt, aIntB, aMin, aMax, aLenT, aLenR, aTupT, aTupR, aLstR, aLstT, lq0, lq1, lq2, lq3, lq4, lq5, lq6, isiI, isiB, isiT, isiL, isiN, isiSt, isii, isib, isitt, idxT, idxR, at20, at21, at2m, at30, at31, at32, at3m, at40, at41, at42, at43, at4m, seqT, seqR, sqT, sqR, asT, asR, zipT, zipR, enuR, n_isN, n_isT, n_isI, n_isL, n_isS, d_bnd, g_nm, g_tp, g_nil, g_cons, Option.map_some, Option.map_none, Option.bind_some, if_true, if_false, Bool.false_eq_true, Bool.not_true, Bool.not_false, List.set_cons_zero, List.set_cons_succ, decide_true, decide_false, reduceCtorEq, c_ahead, j2, jP, jPo, cEqP, ovP, lowP, highP, maxP, minP, tTouch, tAlong, tNone]
  repeat' split
  all_goals rfl
theorem cEqZ {μ : Sto} {u v : Int} : cmpD μ .Eq (.tup [.int (sgn u), .int (sgn v)]) (.tup [.int 0, .int 0]) = some (decide (u = 0 ∧ v = 0)) := by
  rw [cEq2, decide_eq_decide.mpr (show (sgn u = 0 ∧ sgn v = 0) ↔ (u = 0 ∧ v = 0) by rw [sgn0, sgn0])]
theorem sgn_b (i : Int) : (sgn i).natAbs < BIG := lt_big (e := 1) (Nat.lt_of_le_of_lt (sgn_abs i) (by decide)) (by decide)
theorem c_crossing (n : Nat) (A B C E : P3) (μ : Sto) (nA : NmP A) (nB : NmP B) (hA : BdP A 1900) (hB : BdP B 1900) (hC : BdP C 1900) (hE : BdP E 1900) : CN (n + 3) "crossing_of" [pD A, pD B, pD C, pD E] μ = .ok (crossP A B C E) μ := by
  have s1 := c_line_side n C E A μ (hC.mono (by decide)) (hE.mono (by decide)) (hA.mono (by decide))
  have s2 := c_line_side n C E B μ (hC.mono (by decide)) (hE.mono (by decide)) (hB.mono (by decide))
  have s3 := c_line_side n A B C μ (hA.mono (by decide)) (hB.mono (by decide)) (hC.mono (by decide))
  have s4 := c_line_side n A B E μ (hA.mono (by decide)) (hB.mono (by decide)) (hE.mono (by decide))
  have o := c_overlap n A B C E μ (hA.mono (by decide)) (hB.mono (by decide)) (hC.mono (by decide)) (hE.mono (by decide))
  have l1 := c_line_through (n + 1) A B μ (hA.mono (by decide)) (hB.mono (by decide))
  have l2 := c_line_through (n + 1) C E μ (hC.mono (by decide)) (hE.mono (by decide))
  have l3 := c_line_through (n + 1) (lin A B) (lin C E) μ ((lin_bd hA hB).mono (by decide)) ((lin_bd hC hE).mono (by decide))
  have bx := lin_bd (lin_bd hA hB) (lin_bd hC hE)
  rw [st_crossing_of]; unfold b_crossing_of
  unfold crossP
  by_cases z : det C E A = 0 ∧ det C E B = 0
  · rw [if_pos z]
    simp only [obx, osx, s_rai, fl_ex, if_ex, ec_ex, en_ex, cut_samex, v_hrd, hr_ok, hr_ex, v_isE, t_isE, isE_err, v_fld, fld_err, v_isB, t_isB, isb_b, v_rev, revR, n_isE, or_true, true_or, or_false, false_or, and_true, true_and, and_false, false_and, or_self, and_self, not_false_eq_true, not_true_eq_false, ite_self, lcD_rng, forS_rng, fuel_rng, rng2, rng3, rng4, rngI2, rngI3, rngI4, rng8, rngI8, all0, all1, all2, all3, Bool.and_true, Bool.true_and, Bool.and_false, Bool.false_and, Sto.put_put, ib, ist, ifl, iif, ien, icu, jI, jB, jT, andB, orB, andC, orC, notB, decide_eq_true_eq, cut_same, cut_pp, v_lcm, fuel_itm, lcD_itm, forS_itm, s_for, m_nil, m_cons, mc_some, mc_none, imc, lt_def, yes_def, dt_none, dt_some, w_nil, w_cons, own_nil, own_cons, z_nil, z_nil2, z_cons, e_nil, e_cons, lk0, lk1, lk2, lk3, lk4, ea_nil, ea_cons, ec_nx, ec_ct, ec_bk, ec_rt, iec, List.nil_append, List.cons_append, ob, os, oo, ol, q_cons, q_nil, fl_nx, fl_rt, if_yes, if_no, if_ok, en_rt, en_nx, s_set, s_setLc, s_ret, s_retN, s_dro, s_ife, s_par, s_par3, s_tgt, v_var, v_cst, v_glo, v_tup, v_lst, v_tupS, v_lstS, v_mls, v_bin, v_neg, v_not, t_not, v_cmp, t_cmp, v_chn, t_chn, v_isN, t_isN, v_and, v_or, t_and, t_or, v_ife, t_ife, v_idx, v_slc, v_cal, t_cal, v_blt, t_blt, v_isi, t_isi, t_var, v_lrg, v_rpr, v_frz, n_nil, n_cons, f_nil, f_cons, f_star, o_none, o_some, i_seq, i_rng1, i_rng2, i_zip, i_enu, var_0, var_s, cl_call, bAdd, bSub, cLt, cLe, cGt, cGe, cEq, cNe, cEqR, cNeR, nNeg, tBl, tIn, aAbs, aInt, aIntB, aMin, aMax, aLenT, aLenR, aTupT, aTupR, aLstR, aLstT, lq0, lq1, lq2, lq3, lq4, lq5, lq6, isiI, isiB, isiT, isiL, isiN, isiSt, isii, isib, isitt, idxT, idxR, at20, at21, at2m, at30, at31, at32, at3m, at40, at41, at42, at43, at4m, seqT, seqR, sqT, sqR, asT, asR, zipT, zipR, enuR, n_isN, n_isT, n_isI, n_isL, n_isS, d_bnd, g_nm, g_tp, g_nil, g_cons, Option.map_some, Option.map_none, Option.bind_some, if_true, if_false, Bool.false_eq_true, Bool.not_true, Bool.not_false, List.set_cons_zero, List.set_cons_succ, decide_true, decide_false, reduceCtorEq, s1, s2, s3, s4, cEqZ, z, o]
  rw [if_neg z]
  by_cases h : 0 < det C E A * det C E B ∨ 0 < det A B C * det A B E
  · rw [if_pos h]
    simp only [obx, osx, s_rai, fl_ex, if_ex, ec_ex, en_ex, cut_samex, v_hrd, hr_ok, hr_ex, v_isE, t_isE, isE_err, v_fld, fld_err, v_isB, t_isB, isb_b, v_rev, revR, n_isE, or_true, true_or, or_false, false_or, and_true, true_and, and_false, false_and, or_self, and_self, not_false_eq_true, not_true_eq_false, ite_self, lcD_rng, forS_rng, fuel_rng, rng2, rng3, rng4, rngI2, rngI3, rngI4, rng8, rngI8, all0, all1, all2, all3, Bool.and_true, Bool.true_and, Bool.and_false, Bool.false_and, Sto.put_put, ib, ist, ifl, iif, ien, icu, jI, jB, jT, andB, orB, andC, orC, notB, decide_eq_true_eq, cut_same, cut_pp, v_lcm, fuel_itm, lcD_itm, forS_itm, s_for, m_nil, m_cons, mc_some, mc_none, imc, lt_def, yes_def, dt_none, dt_some, w_nil, w_cons, own_nil, own_cons, z_nil, z_nil2, z_cons, e_nil, e_cons, lk0, lk1, lk2, lk3, lk4, ea_nil, ea_cons, ec_nx, ec_ct, ec_bk, ec_rt, iec, List.nil_append, List.cons_append, ob, os, oo, ol, q_cons, q_nil, fl_nx, fl_rt, if_yes, if_no, if_ok, en_rt, en_nx, s_set, s_setLc, s_ret, s_retN, s_dro, s_ife, s_par, s_par3, s_tgt, v_var, v_cst, v_glo, v_tup, v_lst, v_tupS, v_lstS, v_mls, v_bin, v_neg, v_not, t_not, v_cmp, t_cmp, v_chn, t_chn, v_isN, t_isN, v_and, v_or, t_and, t_or, v_ife, t_ife, v_idx, v_slc, v_cal, t_cal, v_blt, t_blt, v_isi, t_isi, t_var, v_lrg, v_rpr, v_frz, n_nil, n_cons, f_nil, f_cons, f_star, o_none, o_some, i_seq, i_rng1, i_rng2, i_zip, i_enu, var_0, var_s, cl_call, bAdd, bSub, cLt, cLe, cGt, cGe, cEq, cNe, cEqR, cNeR, nNeg, tBl, tIn, aAbs, aInt, aIntB, aMin, aMax, aLenT, aLenR, aTupT, aTupR, aLstR, aLstT, lq0, lq1, lq2, lq3, lq4, lq5, lq6, isiI, isiB, isiT, isiL, isiN, isiSt, isii, isib, isitt, idxT, idxR, at20, at21, at2m, at30, at31, at32, at3m, at40, at41, at42, at43, at4m, seqT, seqR, sqT, sqR, asT, asR, zipT, zipR, enuR, n_isN, n_isT, n_isI, n_isL, n_isS, d_bnd, g_nm, g_tp, g_nil, g_cons, Option.map_some, Option.map_none, Option.bind_some, if_true, if_false, Bool.false_eq_true, Bool.not_true, Bool.not_false, List.set_cons_zero, List.set_cons_succ, decide_true, decide_false, reduceCtorEq, s1, s2, s3, s4, cEqZ, z, bMul (sgn_b _) (sgn_b _), sgn_pos, h, tNone]
  rw [if_neg h]
  by_cases y1 : det C E A = 0
  · rw [if_pos y1]
    have y2 : ¬ det C E B = 0 := fun w => z ⟨y1, w⟩
    simp only [obx, osx, s_rai, fl_ex, if_ex, ec_ex, en_ex, cut_samex, v_hrd, hr_ok, hr_ex, v_isE, t_isE, isE_err, v_fld, fld_err, v_isB, t_isB, isb_b, v_rev, revR, n_isE, or_true, true_or, or_false, false_or, and_true, true_and, and_false, false_and, or_self, and_self, not_false_eq_true, not_true_eq_false, ite_self, lcD_rng, forS_rng, fuel_rng, rng2, rng3, rng4, rngI2, rngI3, rngI4, rng8, rngI8, all0, all1, all2, all3, Bool.and_true, Bool.true_and, Bool.and_false, Bool.false_and, Sto.put_put, ib, ist, ifl, iif, ien, icu, jI, jB, jT, andB, orB, andC, orC, notB, decide_eq_true_eq, cut_same, cut_pp, v_lcm, fuel_itm, lcD_itm, forS_itm, s_for, m_nil, m_cons, mc_some, mc_none, imc, lt_def, yes_def, dt_none, dt_some, w_nil, w_cons, own_nil, own_cons, z_nil, z_nil2, z_cons, e_nil, e_cons, lk0, lk1, lk2, lk3, lk4, ea_nil, ea_cons, ec_nx, ec_ct, ec_bk, ec_rt, iec, List.nil_append, List.cons_append, ob, os, oo, ol, q_cons, q_nil, fl_nx, fl_rt, if_yes, if_no, if_ok, en_rt, en_nx, s_set, s_setLc, s_ret, s_retN, s_dro, s_ife, s_par, s_par3, s_tgt, v_var, v_cst, v_glo, v_tup, v_lst, v_tupS, v_lstS, v_mls, v_bin, v_neg, v_not, t_not, v_cmp, t_cmp, v_chn, t_chn, v_isN, t_isN, v_and, v_or, t_and, t_or, v_ife, t_ife, v_idx, v_slc, v_cal, t_cal, v_blt, t_blt, v_isi, t_isi, t_var, v_lrg, v_rpr, v_frz, n_nil, n_cons, f_nil, f_cons, f_star, o_none, o_some, i_seq, i_rng1, i_rng2, i_zip, i_enu, var_0, var_s, cl_call, bAdd, bSub, cLt, cLe, cGt, cGe, cEq, cNe, cEqR, cNeR, nNeg, tBl, tIn, aAbs, aInt, aIntB, aMin, aMax, aLenT, aLenR, aTupT, aTupR, aLstR, aLstT, lq0, lq1, lq2, lq3, lq4, lq5, lq6, isiI, isiB, isiT, isiL, isiN, isiSt, isii, isib, isitt, idxT, idxR, at20, at21, at2m, at30, at31, at32, at3m, at40, at41, at42, at43, at4m, seqT, seqR, sqT, sqR, asT, asR, zipT, zipR, enuR, n_isN, n_isT, n_isI, n_isL, n_isS, d_bnd, g_nm, g_tp, g_nil, g_cons, Option.map_some, Option.map_none, Option.bind_some, if_true, if_false, Bool.false_eq_true, Bool.not_true, Bool.not_false, List.set_cons_zero, List.set_cons_succ, decide_true, decide_false, reduceCtorEq, s1, s2, s3, s4, cEqZ, z, y2, bMul (sgn_b _) (sgn_b _), sgn_pos, h, sgn0, eq_true y1, tTouch]
  rw [if_neg y1]
  by_cases y2 : det C E B = 0
  · rw [if_pos y2]
    simp only [obx, osx, s_rai, fl_ex, if_ex, ec_ex, en_ex, cut_samex, v_hrd, hr_ok, hr_ex, v_isE, t_isE, isE_err, v_fld, fld_err, v_isB, t_isB, isb_b, v_rev, revR, n_isE, or_true, true_or, or_false, false_or, and_true, true_and, and_false, false_and, or_self, and_self, not_false_eq_true, not_true_eq_false, ite_self, lcD_rng, forS_rng, fuel_rng, rng2, rng3, rng4, rngI2, rngI3, rngI4, rng8, rngI8, all0, all1, all2, all3, Bool.and_true, Bool.true_and, Bool.and_false, Bool.false_and, Sto.put_put, ib, ist, ifl, iif, ien, icu, jI, jB, jT, andB, orB, andC, orC, notB, decide_eq_true_eq, cut_same, cut_pp, v_lcm, fuel_itm, lcD_itm, forS_itm, s_for, m_nil, m_cons, mc_some, mc_none, imc, lt_def, yes_def, dt_none, dt_some, w_nil, w_cons, own_nil, own_cons, z_nil, z_nil2, z_cons, e_nil, e_cons, lk0, lk1, lk2, lk3, lk4, ea_nil, ea_cons, ec_nx, ec_ct, ec_bk, ec_rt, iec, List.nil_append, List.cons_append, ob, os, oo, ol, q_cons, q_nil, fl_nx, fl_rt, if_yes, if_no, if_ok, en_rt, en_nx, s_set, s_setLc, s_ret, s_retN, s_dro, s_ife, s_par, s_par3, s_tgt, v_var, v_cst, v_glo, v_tup, v_lst, v_tupS, v_lstS, v_mls, v_bin, v_neg, v_not, t_not, v_cmp, t_cmp, v_chn, t_chn, v_isN, t_isN, v_and, v_or, t_and, t_or, v_ife, t_ife, v_idx, v_slc, v_cal, t_cal, v_blt, t_blt, v_isi, t_isi, t_var, v_lrg, v_rpr, v_frz, n_nil, n_cons, f_nil, f_cons, f_star, o_none, o_some, i_seq, i_rng1, i_rng2, i_zip, i_enu, var_0, var_s, cl_call, bAdd, bSub, cLt, cLe, cGt, cGe, cEq, cNe, cEqR, cNeR, nNeg, tBl, tIn, aAbs, aInt, aIntB, aMin, aMax, aLenT, aLenR, aTupT, aTupR, aLstR, aLstT, lq0, lq1, lq2, lq3, lq4, lq5, lq6, isiI, isiB, isiT, isiL, isiN, isiSt, isii, isib, isitt, idxT, idxR, at20, at21, at2m, at30, at31, at32, at3m, at40, at41, at42, at43, at4m, seqT, seqR, sqT, sqR, asT, asR, zipT, zipR, enuR, n_isN, n_isT, n_isI, n_isL, n_isS, d_bnd, g_nm, g_tp, g_nil, g_cons, Option.map_some, Option.map_none, Option.bind_some, if_true, if_false, Bool.false_eq_true, Bool.not_true, Bool.not_false, List.set_cons_zero, List.set_cons_succ, decide_true, decide_false, reduceCtorEq, s1, s2, s3, s4, cEqZ, z, bMul (sgn_b _) (sgn_b _), sgn_pos, h, sgn0, y1, eq_true y2, tTouch]
  rw [if_neg y2]
  by_cases y3 : det A B C = 0
  · rw [if_pos y3]
    simp only [obx, osx, s_rai, fl_ex, if_ex, ec_ex, en_ex, cut_samex, v_hrd, hr_ok, hr_ex, v_isE, t_isE, isE_err, v_fld, fld_err, v_isB, t_isB, isb_b, v_rev, revR, n_isE, or_true, true_or, or_false, false_or, and_true, true_and, and_false, false_and, or_self, and_self, not_false_eq_true, not_true_eq_false, ite_self, lcD_rng, forS_rng, fuel_rng, rng2, rng3, rng4, rngI2, rngI3, rngI4, rng8, rngI8, all0, all1, all2, all3, Bool.and_true, Bool.true_and, Bool.and_false, Bool.false_and, Sto.put_put, ib, ist, ifl, iif, ien, icu, jI, jB, jT, andB, orB, andC, orC, notB, decide_eq_true_eq, cut_same, cut_pp, v_lcm, fuel_itm, lcD_itm, forS_itm, s_for, m_nil, m_cons, mc_some, mc_none, imc, lt_def, yes_def, dt_none, dt_some, w_nil, w_cons, own_nil, own_cons, z_nil, z_nil2, z_cons, e_nil, e_cons, lk0, lk1, lk2, lk3, lk4, ea_nil, ea_cons, ec_nx, ec_ct, ec_bk, ec_rt, iec, List.nil_append, List.cons_append, ob, os, oo, ol, q_cons, q_nil, fl_nx, fl_rt, if_yes, if_no, if_ok, en_rt, en_nx, s_set, s_setLc, s_ret, s_retN, s_dro, s_ife, s_par, s_par3, s_tgt, v_var, v_cst, v_glo, v_tup, v_lst, v_tupS, v_lstS, v_mls, v_bin, v_neg, v_not, t_not, v_cmp, t_cmp, v_chn, t_chn, v_isN, t_isN, v_and, v_or, t_and, t_or, v_ife, t_ife, v_idx, v_slc, v_cal, t_cal, v_blt, t_blt, v_isi, t_isi, t_var, v_lrg, v_rpr, v_frz, n_nil, n_cons, f_nil, f_cons, f_star, o_none, o_some, i_seq, i_rng1, i_rng2, i_zip, i_enu, var_0, var_s, cl_call, bAdd, bSub, cLt, cLe, cGt, cGe, cEq, cNe, cEqR, cNeR, nNeg, tBl, tIn, aAbs, aInt, aIntB, aMin, aMax, aLenT, aLenR, aTupT, aTupR, aLstR, aLstT, lq0, lq1, lq2, lq3, lq4, lq5, lq6, isiI, isiB, isiT, isiL, isiN, isiSt, isii, isib, isitt, idxT, idxR, at20, at21, at2m, at30, at31, at32, at3m, at40, at41, at42, at43, at4m, seqT, seqR, sqT, sqR, asT, asR, zipT, zipR, enuR, n_isN, n_isT, n_isI, n_isL, n_isS, d_bnd, g_nm, g_tp, g_nil, g_cons, Option.map_some, Option.map_none, Option.bind_some, if_true, if_false, Bool.false_eq_true, Bool.not_true, Bool.not_false, List.set_cons_zero, List.set_cons_succ, decide_true, decide_false, reduceCtorEq, s1, s2, s3, s4, cEqZ, z, bMul (sgn_b _) (sgn_b _), sgn_pos, h, sgn0, y1, y2, eq_true y3, tTouch]
  rw [if_neg y3]
  by_cases y4 : det A B E = 0
  · rw [if_pos y4]
    simp only [obx, osx, s_rai, fl_ex, if_ex, ec_ex, en_ex, cut_samex, v_hrd, hr_ok, hr_ex, v_isE, t_isE, isE_err, v_fld, fld_err, v_isB, t_isB, isb_b, v_rev, revR, n_isE, or_true, true_or, or_false, false_or, and_true, true_and, and_false, false_and, or_self, and_self, not_false_eq_true, not_true_eq_false, ite_self, lcD_rng, forS_rng, fuel_rng, rng2, rng3, rng4, rngI2, rngI3, rngI4, rng8, rngI8, all0, all1, all2, all3, Bool.and_true, Bool.true_and, Bool.and_false, Bool.false_and, Sto.put_put, ib, ist, ifl, iif, ien, icu, jI, jB, jT, andB, orB, andC, orC, notB, decide_eq_true_eq, cut_same, cut_pp, v_lcm, fuel_itm, lcD_itm, forS_itm, s_for, m_nil, m_cons, mc_some, mc_none, imc, lt_def, yes_def, dt_none, dt_some, w_nil, w_cons, own_nil, own_cons, z_nil, z_nil2, z_cons, e_nil, e_cons, lk0, lk1, lk2, lk3, lk4, ea_nil, ea_cons, ec_nx, ec_ct, ec_bk, ec_rt, iec, List.nil_append, List.cons_append, ob, os, oo, ol, q_cons, q_nil, fl_nx, fl_rt, if_yes, if_no, if_ok, en_rt, en_nx, s_set, s_setLc, s_ret, s_retN, s_dro, s_ife, s_par, s_par3, s_tgt, v_var, v_cst, v_glo, v_tup, v_lst, v_tupS, v_lstS, v_mls, v_bin, v_neg, v_not, t_not, v_cmp, t_cmp, v_chn, t_chn, v_isN, t_isN, v_and, v_or, t_and, t_or, v_ife, t_ife, v_idx, v_slc, v_cal, t_cal, v_blt, t_blt, v_isi, t_isi, t_var, v_lrg, v_rpr, v_frz, n_nil, n_cons, f_nil, f_cons, f_star, o_none, o_some, i_seq, i_rng1, i_rng2, i_zip, i_enu, var_0, var_s, cl_call, bAdd, bSub, cLt, cLe, cGt, cGe, cEq, cNe, cEqR, cNeR, nNeg, tBl, tIn, aAbs, aInt, aIntB, aMin, aMax, aLenT, aLenR, aTupT, aTupR, aLstR, aLstT, lq0, lq1, lq2, lq3, lq4, lq5, lq6, isiI, isiB, isiT, isiL, isiN, isiSt, isii, isib, isitt, idxT, idxR, at20, at21, at2m, at30, at31, at32, at3m, at40, at41, at42, at43, at4m, seqT, seqR, sqT, sqR, asT, asR, zipT, zipR, enuR, n_isN, n_isT, n_isI, n_isL, n_isS, d_bnd, g_nm, g_tp, g_nil, g_cons, Option.map_some, Option.map_none, Option.bind_some, if_true, if_false, Bool.false_eq_true, Bool.not_true, Bool.not_false, List.set_cons_zero, List.set_cons_succ, decide_true, decide_false, reduceCtorEq, s1, s2, s3, s4, cEqZ, z, bMul (sgn_b _) (sgn_b _), sgn_pos, h, sgn0, y1, y2, y3, eq_true y4, tTouch]
  rw [if_neg y4]
  have nz : (meetX A B C E).2.2 ≠ 0 := meetX_ne nA nB (fun w => h (.inl w)) (.inl y1)
  have pa := c_point_at n (meetX A B C E).1 (meetX A B C E).2.1 (meetX A B C E).2.2 μ nz (bigW bx.2.1 (by decide)) (le_bd bx.2.2 (by decide))
  unfold meetX at pa nz
  simp only [obx, osx, s_rai, fl_ex, if_ex, ec_ex, en_ex, cut_samex, v_hrd, hr_ok, hr_ex, v_isE, t_isE, isE_err, v_fld, fld_err, v_isB, t_isB, isb_b, v_rev, revR, n_isE, or_true, true_or, or_false, false_or, and_true, true_and, and_false, false_and, or_self, and_self, not_false_eq_true, not_true_eq_false, ite_self, lcD_rng, forS_rng, fuel_rng, rng2, rng3, rng4, rngI2, rngI3, rngI4, rng8, rngI8, all0, all1, all2, all3, Bool.and_true, Bool.true_and, Bool.and_false, Bool.false_and, Sto.put_put, ib, ist, ifl, iif, ien, icu, jI, jB, jT, andB, orB, andC, orC, notB, decide_eq_true_eq, cut_same, cut_pp, v_lcm, fuel_itm, lcD_itm, forS_itm, s_for, m_nil, m_cons, mc_some, mc_none, imc, lt_def, yes_def, dt_none, dt_some, w_nil, w_cons, own_nil, own_cons, z_nil, z_nil2, z_cons, e_nil, e_cons, lk0, lk1, lk2, lk3, lk4, ea_nil, ea_cons, ec_nx, ec_ct, ec_bk, ec_rt, iec, List.nil_append, List.cons_append, ob, os, oo, ol, q_cons, q_nil, fl_nx, fl_rt, if_yes, if_no, if_ok, en_rt, en_nx, s_set, s_setLc, s_ret, s_retN, s_dro, s_ife, s_par, s_par3, s_tgt, v_var, v_cst, v_glo, v_tup, v_lst, v_tupS, v_lstS, v_mls, v_bin, v_neg, v_not, t_not, v_cmp, t_cmp, v_chn, t_chn, v_isN, t_isN, v_and, v_or, t_and, t_or, v_ife, t_ife, v_idx, v_slc, v_cal, t_cal, v_blt, t_blt, v_isi, t_isi, t_var, v_lrg, v_rpr, v_frz, n_nil, n_cons, f_nil, f_cons, f_star, o_none, o_some, i_seq, i_rng1, i_rng2, i_zip, i_enu, var_0, var_s, cl_call, bAdd, bSub, cLt, cLe, cGt, cGe, cEq, cNe, cEqR, cNeR, nNeg, tBl, tIn, aAbs, aInt, aIntB, aMin, aMax, aLenT, aLenR, aTupT, aTupR, aLstR, aLstT, lq0, lq1, lq2, lq3, lq4, lq5, lq6, isiI, isiB, isiT, isiL, isiN, isiSt, isii, isib, isitt, idxT, idxR, at20, at21, at2m, at30, at31, at32, at3m, at40, at41, at42, at43, at4m, seqT, seqR, sqT, sqR, asT, asR, zipT, zipR, enuR, n_isN, n_isT, n_isI, n_isL, n_isS, d_bnd, g_nm, g_tp, g_nil, g_cons, Option.map_some, Option.map_none, Option.bind_some, if_true, if_false, Bool.false_eq_true, Bool.not_true, Bool.not_false, List.set_cons_zero, List.set_cons_succ, decide_true, decide_false, reduceCtorEq, s1, s2, s3, s4, cEqZ, z, bMul (sgn_b _) (sgn_b _), sgn_pos, h, sgn0, y1, y2, y3, y4, l1, l2, l3, pa, tCross, nrmP, meetX]
theorem c_meet (n : Nat) (A B C E : P3) (μ : Sto) (nA : NmP A) (nB : NmP B) (nC : NmP C) (nE : NmP E) (hA : BdP A 1900) (hB : BdP B 1900) (hC : BdP C 1900) (hE : BdP E 1900) (hab : A ≠ B) (hce : C ≠ E) : CN (n + 4) "meet" [pD A, pD B, pD C, pD E] μ = .ok (crossP A B C E) μ := by
  have e := c_check n [pD A, pD B, pD C, pD E] μ (by
    intro d hd
    simp only [List.mem_cons, List.not_mem_nil, or_false] at hd
    rcases hd with rfl | rfl | rfl | rfl
    · exact ⟨A, rfl, nA, hA.mono (by decide)⟩
    · exact ⟨B, rfl, nB, hB.mono (by decide)⟩
    · exact ⟨C, rfl, nC, hC.mono (by decide)⟩
    · exact ⟨E, rfl, nE, hE.mono (by decide)⟩)
  have x := c_crossing n A B C E μ nA nB hA hB hC hE
  rw [st_meet]; unfold b_meet
  simp only [obx, osx, s_rai, fl_ex, if_ex, ec_ex, en_ex, cut_samex, v_hrd, hr_ok, hr_ex, v_isE, t_isE, isE_err, v_fld, fld_err, v_isB, t_isB, isb_b, v_rev, revR, n_isE, or_true, true_or, or_false, false_or, and_true, true_and, and_false, false_and, or_self, and_self, not_false_eq_true, not_true_eq_false, ite_self, lcD_rng, forS_rng, fuel_rng, rng2, rng3, rng4, rngI2, rngI3, rngI4, rng8, rngI8, all0, all1, all2, all3, Bool.and_true, Bool.true_and, Bool.and_false, Bool.false_and, Sto.put_put, ib, ist, ifl, iif, ien, icu, jI, jB, jT, andB, orB, andC, orC, notB, decide_eq_true_eq, cut_same, cut_pp, v_lcm, fuel_itm, lcD_itm, forS_itm, s_for, m_nil, m_cons, mc_some, mc_none, imc, lt_def, yes_def, dt_none, dt_some, w_nil, w_cons, own_nil, own_cons, z_nil, z_nil2, z_cons, e_nil, e_cons, lk0, lk1, lk2, lk3, lk4, ea_nil, ea_cons, ec_nx, ec_ct, ec_bk, ec_rt, iec, List.nil_append, List.cons_append, ob, os, oo, ol, q_cons, q_nil, fl_nx, fl_rt, if_yes, if_no, if_ok, en_rt, en_nx, s_set, s_setLc, s_ret, s_retN, s_dro, s_ife, s_par, s_par3, s_tgt, v_var, v_cst, v_glo, v_tup, v_lst, v_tupS, v_lstS, v_mls, v_bin, v_neg, v_not, t_not, v_cmp, t_cmp, v_chn, t_chn, v_isN, t_isN, v_and, v_or, t_and, t_or, v_ife, t_ife, v_idx, v_slc, v_cal, t_cal, v_blt, t_blt, v_isi, t_isi, t_var, v_lrg, v_rpr, v_frz, n_nil, n_cons, f_nil, f_cons, f_star, o_none, o_some, i_seq, i_rng1, i_rng2, i_zip, i_enu, var_0, var_s, cl_call, bAdd, bSub, cLt, cLe, cGt, cGe, cEq, cNe, cEqR, cNeR, nNeg, tBl, tIn, aAbs, aInt, aIntB, aMin, aMax, aLenT, aLenR, aTupT, aTupR, aLstR, aLstT, lq0, lq1, lq2, lq3, lq4, lq5, lq6, isiI, isiB, isiT, isiL, isiN, isiSt, isii, isib, isitt, idxT, idxR, at20, at21, at2m, at30, at31, at32, at3m, at40, at41, at42, at43, at4m, seqT, seqR, sqT, sqR, asT, asR, zipT, zipR, enuR, n_isN, n_isT, n_isI, n_isL, n_isS, d_bnd, g_nm, g_tp, g_nil, g_cons, Option.map_some, Option.map_none, Option.bind_some, if_true, if_false, Bool.false_eq_true, Bool.not_true, Bool.not_false, List.set_cons_zero, List.set_cons_succ, decide_true, decide_false, reduceCtorEq, e, cEqP, hab, hce, x]

end Rf



set_option Elab.async false
set_option linter.all false
set_option maxRecDepth 100000
set_option maxHeartbeats 4000000
/-! k05: draws -/
namespace Rf
open PySem PySem.Spec PyProof.Rows L2
/-! ### drawn points, ways -/
theorem p106 {μ : Sto} : binD .Pow (.int 10) (.int 6) μ = some (.int 1000000, μ) := by
  rw [bPow (by decide) (by decide) (lt_mid (show (10 : Int).natAbs < 2 ^ 5 by decide) (by decide))]; rfl
theorem p105 {μ : Sto} : binD .Pow (.int 10) (.int 5) μ = some (.int 100000, μ) := by
  rw [bPow (by decide) (by decide) (lt_mid (show (10 : Int).natAbs < 2 ^ 5 by decide) (by decide))]; rfl
/-! ### the script -/
theorem pw300 : ∃ M : Int, 0 < M ∧ M.natAbs < 2 ^ 1000 ∧ ∀ μ : Sto, (binD .Pow (.int 10) (.int 60) μ).bind (fun x => binD .Pow x.1 (.int 5) x.2) = some (.int M, μ) := by
  refine ⟨10 ^ 300, by decide +kernel, by decide +kernel, fun μ => ?_⟩
  rw [bPow (by decide) (by decide) (lt_mid (show (10 : Int).natAbs < 2 ^ 5 by decide) (by decide))]
  show binD .Pow (.int (10 ^ 60)) (.int 5) μ = _
  rw [bPow (by decide) (by decide) (lt_mid (e := 300) (by decide +kernel) (by decide))]
  rfl
theorem c_pot (n : Nat) (ns : List Int) (place : Nat) (μ : Sto) (hpl : place < 100) : ∃ s : Pt, CN (n + 1) "_law_pot" [.rol (ns.map .int), .int place] μ = .ok (.obj μ.sz) (μ.push (potL s)) ∧ V 0 s := by
  obtain ⟨cell, hcell⟩ : ∃ cell : Int, (den ⟨WF, CN n⟩ (.ife (.cmp .Lt (.var 1) (.blt .len (.cons (.var 0) .nil))) (.idx (.var 0) (.var 1)) (.bin .Add (.bin .Add (.bin .Mod (.blt .sum (.cons (.slc (.var 0) .none (.some (.cst (.int 1)))) .nil)) (.cst (.int 1000003))) (.bin .Mult (.cst (.int 1314)) (.var 1))) (.cst (.int 604))))).1 [some (.rol (ns.map .int)), some (.int place), none, none, none] μ = .ok (.int cell) μ := by
    by_cases h : (place : Int) < (ns.map D.int).length
    · obtain ⟨d, hd, e⟩ := atI_in (ds := ns.map D.int) (i := place) (by omega) h
      obtain ⟨i, _, rfl⟩ := List.mem_map.mp hd
      refine ⟨i, ?_⟩
      simp only [obx, osx, s_rai, fl_ex, if_ex, ec_ex, en_ex, cut_samex, v_hrd, hr_ok, hr_ex, v_isE, t_isE, isE_err, v_fld, fld_err, v_isB, t_isB, isb_b, v_rev, revR, n_isE, or_true, true_or, or_false, false_or, and_true, true_and, and_false, false_and, or_self, and_self, not_false_eq_true, not_true_eq_false, ite_self, lcD_rng, forS_rng, fuel_rng, rng2, rng3, rng4, rngI2, rngI3, rngI4, rng8, rngI8, all0, all1, all2, all3, Bool.and_true, Bool.true_and, Bool.and_false, Bool.false_and, Sto.put_put, ib, ist, ifl, iif, ien, icu, jI, jB, jT, andB, orB, andC, orC, notB, decide_eq_true_eq, cut_same, cut_pp, v_lcm, fuel_itm, lcD_itm, forS_itm, s_for, m_nil, m_cons, mc_some, mc_none, imc, lt_def, yes_def, dt_none, dt_some, w_nil, w_cons, own_nil, own_cons, z_nil, z_nil2, z_cons, e_nil, e_cons, lk0, lk1, lk2, lk3, lk4, ea_nil, ea_cons, ec_nx, ec_ct, ec_bk, ec_rt, iec, List.nil_append, List.cons_append, ob, os, oo, ol, q_cons, q_nil, fl_nx, fl_rt, if_yes, if_no, if_ok, en_rt, en_nx, s_set, s_setLc, s_ret, s_retN, s_dro, s_ife, s_par, s_par3, s_tgt, v_var, v_cst, v_glo, v_tup, v_lst, v_tupS, v_lstS, v_mls, v_bin, v_neg, v_not, t_not, v_cmp, t_cmp, v_chn, t_chn, v_isN, t_isN, v_and, v_or, t_and, t_or, v_ife, t_ife, v_idx, v_slc, v_cal, t_cal, v_blt, t_blt, v_isi, t_isi, t_var, v_lrg, v_rpr, v_frz, n_nil, n_cons, f_nil, f_cons, f_star, o_none, o_some, i_seq, i_rng1, i_rng2, i_zip, i_enu, var_0, var_s, cl_call, bAdd, bSub, cLt, cLe, cGt, cGe, cEq, cNe, cEqR, cNeR, nNeg, tBl, tIn, aAbs, aInt, aIntB, aMin, aMax, aLenT, aLenR, aTupT, aTupR, aLstR, aLstT, lq0, lq1, lq2, lq3, lq4, lq5, lq6, isiI, isiB, isiT, isiL, isiN, isiSt, isii, isib, isitt, idxT, idxR, at20, at21, at2m, at30, at31, at32, at3m, at40, at41, at42, at43, at4m, seqT, seqR, sqT, sqR, asT, asR, zipT, zipR, enuR, n_isN, n_isT, n_isI, n_isL, n_isS, d_bnd, g_nm, g_tp, g_nil, g_cons, Option.map_some, Option.map_none, Option.bind_some, if_true, if_false, Bool.false_eq_true, Bool.not_true, Bool.not_false, List.set_cons_zero, List.set_cons_succ, decide_true, decide_false, reduceCtorEq, h, e]
    · obtain ⟨is, ei⟩ := ints_all (cutD (ns.map D.int) none (some 1)) fun d hd => by
        obtain ⟨i, _, rfl⟩ := List.mem_map.mp (cutD_mem hd)
        exact ⟨i, rfl⟩
      have b2 : ((place : Nat) : Int).natAbs < 2 ^ 20 := by omega
      refine ⟨is.sum.fmod 1000003 + 1314 * (place : Nat) + 604, ?_⟩
      simp (disch := first | decide | first | assumption | rfl | exact lt_big (by (repeat' first | assumption | exact (show _ < 2 ^ 64 by decide) | apply mul_bd | apply add_bd | apply sub_bd | apply neg_bd)) (by decide) | exact lt_mid (by (repeat' first | assumption | exact (show _ < 2 ^ 64 by decide) | apply mul_bd | apply add_bd | apply sub_bd | apply neg_bd)) (by decide) | exact bigW (by (repeat' first | assumption | exact (show _ < 2 ^ 64 by decide) | apply mul_bd | apply add_bd | apply sub_bd | apply neg_bd)) (by decide)) only [obx, osx, s_rai, fl_ex, if_ex, ec_ex, en_ex, cut_samex, v_hrd, hr_ok, hr_ex, v_isE, t_isE, isE_err, v_fld, fld_err, v_isB, t_isB, isb_b, v_rev, revR, n_isE, or_true, true_or, or_false, false_or, and_true, true_and, and_false, false_and, or_self, and_self, not_false_eq_true, not_true_eq_false, ite_self, lcD_rng, forS_rng, fuel_rng, rng2, rng3, rng4, rngI2, rngI3, rngI4, rng8, rngI8, all0, all1, all2, all3, Bool.and_true, Bool.true_and, Bool.and_false, Bool.false_and, Sto.put_put, ib, ist, ifl, iif, ien, icu, jI, jB, jT, andB, orB, andC, orC, notB, decide_eq_true_eq, cut_same, cut_pp, v_lcm, fuel_itm, lcD_itm, forS_itm, s_for, m_nil, m_cons, mc_some, mc_none, imc, lt_def, yes_def, dt_none, dt_some, w_nil, w_cons, own_nil, own_cons, z_nil, z_nil2, z_cons, e_nil, e_cons, lk0, lk1, lk2, lk3, lk4, ea_nil, ea_cons, ec_nx, ec_ct, ec_bk, ec_rt, iec, List.nil_append, List.cons_append, ob, os, oo, ol, q_cons, q_nil, fl_nx, fl_rt, if_yes, if_no, if_ok, en_rt, en_nx, s_set, s_setLc, s_ret, s_retN, s_dro, s_ife, s_par, s_par3, s_tgt, v_var, v_cst, v_glo, v_tup, v_lst, v_tupS, v_lstS, v_mls, v_bin, v_neg, v_not, t_not, v_cmp, t_cmp, v_chn, t_chn, v_isN, t_isN, v_and, v_or, t_and, t_or, v_ife, t_ife, v_idx, v_slc, v_cal, t_cal, v_blt, t_blt, v_isi, t_isi, t_var, v_lrg, v_rpr, v_frz, n_nil, n_cons, f_nil, f_cons, f_star, o_none, o_some, i_seq, i_rng1, i_rng2, i_zip, i_enu, var_0, var_s, cl_call, bAdd, bSub, cLt, cLe, cGt, cGe, cEq, cNe, cEqR, cNeR, nNeg, tBl, tIn, aAbs, aInt, aIntB, aMin, aMax, aLenT, aLenR, aTupT, aTupR, aLstR, aLstT, lq0, lq1, lq2, lq3, lq4, lq5, lq6, isiI, isiB, isiT, isiL, isiN, isiSt, isii, isib, isitt, idxT, idxR, at20, at21, at2m, at30, at31, at32, at3m, at40, at41, at42, at43, at4m, seqT, seqR, sqT, sqR, asT, asR, zipT, zipR, enuR, n_isN, n_isT, n_isI, n_isL, n_isS, d_bnd, g_nm, g_tp, g_nil, g_cons, Option.map_some, Option.map_none, Option.bind_some, if_true, if_false, Bool.false_eq_true, Bool.not_true, Bool.not_false, List.set_cons_zero, List.set_cons_succ, decide_true, decide_false, reduceCtorEq, h, slcR, sumR ei, bMod (show (1000003 : Int) ≠ 0 by decide), bMul]
  obtain ⟨M, M0, Mb, hM⟩ := pw300
  have fm := fmod_b (a := (cell.natAbs : Int)) M0
  have fmb : ((cell.natAbs : Int).fmod M).natAbs < 2 ^ 1000 := by omega
  have sm := fmod_b (a := cell) (show (0 : Int) < 2305843009213693951 by decide)
  have y := fmod_b (a := (cell.fmod 2305843009213693951) * 73514 + 8204 * (place : Nat) * (place : Nat) + 562) (show (0 : Int) < 2305843009213693921 by decide)
  have hb2 : ∀ k : Bool, (b2i k).natAbs < 2 ^ 1 := by intro k; cases k <;> decide
  have c1 : (cell.fmod 2305843009213693951).natAbs < 2 ^ 62 := by omega
  have c2 : ((place : Nat) : Int).natAbs < 2 ^ 20 := by omega
  have p18 : binD .Pow (.int 10) (.int 18) μ = some (.int (10 ^ (18 : Int).toNat), μ) := bPow (by decide) (by decide) (lt_mid (show (10 : Int).natAbs < 2 ^ 5 by decide) (by decide))
  have hown : ∀ k : Bool, 0 ≤ (cell.natAbs : Int).fmod M * b2i k ∧ ((cell.natAbs : Int).fmod M * b2i k).natAbs < 2 ^ 1000 := by
    intro k
    cases k with
    | true => rw [show b2i true = 1 from rfl, Int.mul_one]; exact ⟨fm.1, fmb⟩
    | false => rw [show b2i false = 0 from rfl, Int.mul_zero]; exact ⟨Int.le_refl _, by decide +kernel⟩
  have hM1 := hM μ
  have p60 : binD .Pow (.int 10) (.int 60) μ = some (.int (10 ^ (60 : Int).toNat), μ) := bPow (by decide) (by decide) (lt_mid (show (10 : Int).natAbs < 2 ^ 5 by decide) (by decide))
  rw [p60] at hM1
  have hM2 : binD .Pow (.int (10 ^ (60 : Int).toNat)) (.int 5) μ = some (.int M, μ) := hM1
  generalize hP : (10 : Int) ^ (60 : Int).toNat = P60 at hM2 p60
  generalize hQ : (10 : Int) ^ (18 : Int).toNat = P18 at p18
  have hb3 := hb2 (decide (P18 ≤ (cell.natAbs : Int)))
  have yb : ((cell.fmod 2305843009213693951 * 73514 + 8204 * (place : Nat) * (place : Nat) + 562).fmod 2305843009213693921).natAbs < 2 ^ 62 := by omega
  refine ⟨⟨(cell.natAbs : Int).fmod M * b2i (decide (P18 ≤ (cell.natAbs : Int))), ((cell.fmod 2305843009213693951) * 73514 + 8204 * (place : Nat) * (place : Nat) + 562).fmod 2305843009213693921, 0⟩, ?_, ⟨(hown _).1, (hown _).2, y.1, yb, Int.le_refl 0, Int.le_refl 0⟩⟩
  rw [st__law_pot]; unfold b__law_pot
  simp (disch := first | assumption | rfl | exact lt_big (by (repeat' first | assumption | exact (show _ < 2 ^ 64 by decide) | apply mul_bd | apply add_bd | apply sub_bd | apply neg_bd)) (by decide) | exact lt_mid (by (repeat' first | assumption | exact (show _ < 2 ^ 64 by decide) | apply mul_bd | apply add_bd | apply sub_bd | apply neg_bd)) (by decide) | exact bigW (by (repeat' first | assumption | exact (show _ < 2 ^ 64 by decide) | apply mul_bd | apply add_bd | apply sub_bd | apply neg_bd)) (by decide)) only [obx, osx, s_rai, fl_ex, if_ex, ec_ex, en_ex, cut_samex, v_hrd, hr_ok, hr_ex, v_isE, t_isE, isE_err, v_fld, fld_err, v_isB, t_isB, isb_b, v_rev, revR, n_isE, or_true, true_or, or_false, false_or, and_true, true_and, and_false, false_and, or_self, and_self, not_false_eq_true, not_true_eq_false, ite_self, lcD_rng, forS_rng, fuel_rng, rng2, rng3, rng4, rngI2, rngI3, rngI4, rng8, rngI8, all0, all1, all2, all3, Bool.and_true, Bool.true_and, Bool.and_false, Bool.false_and, Sto.put_put, ib, ist, ifl, iif, ien, icu, jI, jB, jT, andB, orB, andC, orC, notB, decide_eq_true_eq, cut_same, cut_pp, v_lcm, fuel_itm, lcD_itm, forS_itm, s_for, m_nil, m_cons, mc_some, mc_none, imc, lt_def, yes_def, dt_none, dt_some, w_nil, w_cons, own_nil, own_cons, z_nil, z_nil2, z_cons, e_nil, e_cons, lk0, lk1, lk2, lk3, lk4, ea_nil, ea_cons, ec_nx, ec_ct, ec_bk, ec_rt, iec, List.nil_append, List.cons_append, ob, os, oo, ol, q_cons, q_nil, fl_nx, fl_rt, if_yes, if_no, if_ok, en_rt, en_nx, s_set, s_setLc, s_ret, s_retN, s_dro, s_ife, s_par, s_par3, s_tgt, v_var, v_cst, v_glo, v_tup, v_lst, v_tupS, v_lstS, v_mls, v_bin, v_neg, v_not, t_not, v_cmp, t_cmp, v_chn, t_chn, v_isN, t_isN, v_and, v_or, t_and, t_or, v_ife, t_ife, v_idx, v_slc, v_cal, t_cal, v_blt, t_blt, v_isi, t_isi, t_var, v_lrg, v_rpr, v_frz, n_nil, n_cons, f_nil, f_cons, f_star, o_none, o_some, i_seq, i_rng1, i_rng2, i_zip, i_enu, var_0, var_s, cl_call, bAdd, bSub, cLt, cLe, cGt, cGe, cEq, cNe, cEqR, cNeR, nNeg, tBl, tIn, aAbs, aInt, aIntB, aMin, aMax, aLenT, aLenR, aTupT, aTupR, aLstR, aLstT, lq0, lq1, lq2, lq3, lq4, lq5, lq6, isiI, isiB, isiT, isiL, isiN, isiSt, isii, isib, isitt, idxT, idxR, at20, at21, at2m, at30, at31, at32, at3m, at40, at41, at42, at43, at4m, seqT, seqR, sqT, sqR, asT, asR, zipT, zipR, enuR, n_isN, n_isT, n_isI, n_isL, n_isS, d_bnd, g_nm, g_tp, g_nil, g_cons, Option.map_some, Option.map_none, Option.bind_some, if_true, if_false, Bool.false_eq_true, Bool.not_true, Bool.not_false, List.set_cons_zero, List.set_cons_succ, decide_true, decide_false, reduceCtorEq, hcell, p60, hM2, bMod (show M ≠ 0 by omega), p18, bMul, bMod (show (2305843009213693951 : Int) ≠ 0 by decide), bMod (show (2305843009213693921 : Int) ≠ 0 by decide)]
  exact cut_new
theorem c_cells (n m : Nat) (ns : List Int) (μ : Sto) (hm0 : 0 < m) (hm : m < 100) : ∃ ds : List D, CN (n + 1) "_law_cells" [.rol (ns.map .int), .int m] μ = .ok (.rol ds) μ ∧ ds.length ≤ m ∧ ∀ d ∈ ds, ∃ i : Nat, d = .int i ∧ i < m := by
  have hl : ∀ l : Int, 0 ≤ l → 0 ≤ (if (1 : Int) < (if l < (m : Int) then l else (m : Int)) then (if l < (m : Int) then l else (m : Int)) else 1) ∧ (if (1 : Int) < (if l < (m : Int) then l else (m : Int)) then (if l < (m : Int) then l else (m : Int)) else 1) ≤ m := by
    intro l h
    repeat' split
    all_goals omega
  obtain ⟨h1, h2⟩ := hl ((ns.map D.int).length : Nat) (by omega)
  refine ⟨(List.range (if (1 : Int) < (if ((ns.map D.int).length : Int) < (m : Int) then ((ns.map D.int).length : Int) else (m : Int)) then (if ((ns.map D.int).length : Int) < (m : Int) then ((ns.map D.int).length : Int) else (m : Int)) else 1).toNat).map fun i => .int (0 + (i : Nat)), ?_, ?_, ?_⟩
  · rw [st__law_cells]; unfold b__law_cells
    simp (disch := omega) only [obx, osx, s_rai, fl_ex, if_ex, ec_ex, en_ex, cut_samex, v_hrd, hr_ok, hr_ex, v_isE, t_isE, isE_err, v_fld, fld_err, v_isB, t_isB, isb_b, v_rev, revR, n_isE, or_true, true_or, or_false, false_or, and_true, true_and, and_false, false_and, or_self, and_self, not_false_eq_true, not_true_eq_false, ite_self, lcD_rng, forS_rng, fuel_rng, rng2, rng3, rng4, rngI2, rngI3, rngI4, rng8, rngI8, all0, all1, all2, all3, Bool.and_true, Bool.true_and, Bool.and_false, Bool.false_and, Sto.put_put, ib, ist, ifl, iif, ien, icu, jI, jB, jT, andB, orB, andC, orC, notB, decide_eq_true_eq, cut_same, cut_pp, v_lcm, fuel_itm, lcD_itm, forS_itm, s_for, m_nil, m_cons, mc_some, mc_none, imc, lt_def, yes_def, dt_none, dt_some, w_nil, w_cons, own_nil, own_cons, z_nil, z_nil2, z_cons, e_nil, e_cons, lk0, lk1, lk2, lk3, lk4, ea_nil, ea_cons, ec_nx, ec_ct, ec_bk, ec_rt, iec, List.nil_append, List.cons_append, ob, os, oo, ol, q_cons, q_nil, fl_nx, fl_rt, if_yes, if_no, if_ok, en_rt, en_nx, s_set, s_setLc, s_ret, s_retN, s_dro, s_ife, s_par, s_par3, s_tgt, v_var, v_cst, v_glo, v_tup, v_lst, v_tupS, v_lstS, v_mls, v_bin, v_neg, v_not, t_not, v_cmp, t_cmp, v_chn, t_chn, v_isN, t_isN, v_and, v_or, t_and, t_or, v_ife, t_ife, v_idx, v_slc, v_cal, t_cal, v_blt, t_blt, v_isi, t_isi, t_var, v_lrg, v_rpr, v_frz, n_nil, n_cons, f_nil, f_cons, f_star, o_none, o_some, i_seq, i_rng1, i_rng2, i_zip, i_enu, var_0, var_s, cl_call, bAdd, bSub, cLt, cLe, cGt, cGe, cEq, cNe, cEqR, cNeR, nNeg, tBl, tIn, aAbs, aInt, aIntB, aMin, aMax, aLenT, aLenR, aTupT, aTupR, aLstR, aLstT, lq0, lq1, lq2, lq3, lq4, lq5, lq6, isiI, isiB, isiT, isiL, isiN, isiSt, isii, isib, isitt, idxT, idxR, at20, at21, at2m, at30, at31, at32, at3m, at40, at41, at42, at43, at4m, seqT, seqR, sqT, sqR, asT, asR, zipT, zipR, enuR, n_isN, n_isT, n_isI, n_isL, n_isS, d_bnd, g_nm, g_tp, g_nil, g_cons, Option.map_some, Option.map_none, Option.bind_some, if_true, if_false, Bool.false_eq_true, Bool.not_true, Bool.not_false, List.set_cons_zero, List.set_cons_succ, decide_true, decide_false, reduceCtorEq, rngL1]
  · rw [List.length_map, List.length_range]
    omega
  · intro d hd
    obtain ⟨i, hi, rfl⟩ := List.mem_map.mp hd
    have := List.mem_range.mp hi
    exact ⟨i, by rw [Int.zero_add], by omega⟩
/-- a law that asks some cells -/
theorem yes_cells (n m : Nat) (ns : List Int) (hm0 : 0 < m) (hm : m < 100) (hb : b_law = [(.ret (.blt .all (.cons (.lcm (.nm 1) (.seq (.cal "_law_cells" (.cons (.var 0) (.cons (.cst (.int m)) .nil)))) .none (.cal "_law_right" (.cons (.cal "_law_pot" (.cons (.var 0) (.cons (.var 1) .nil))) .nil)) [("place", 1)]) .nil)))])
    (R : ∀ (μ : Sto) (p : Nat) (s : Pt), p < μ.sz → V 0 s → ∃ μ', CN (n + 1) "_law_right" [.obj p] (μ.put p (potL s)) = .ok (.bl true) μ') : ∃ μ', CN (n + 2) "law" [.rol (ns.map .int)] μ0 = .ok (.bl true) μ' := by
  obtain ⟨ds, e1, l1, hd⟩ := c_cells n m ns μ0 hm0 hm
  obtain ⟨μ', e2⟩ := mapD_yes0 (f := lcTurn (.nm 1) [some (.rol (ns.map .int)), none] yesT (den ⟨WF, CN (n + 1)⟩ (.cal "_law_right" (.cons (.cal "_law_pot" (.cons (.var 0) (.cons (.var 1) .nil))) .nil))).1) ds μ0 (fun d hdm μ => by
    obtain ⟨i, rfl, hi⟩ := hd d hdm
    obtain ⟨s, e3, v⟩ := c_pot n ns i μ (by omega)
    obtain ⟨μ2, e4⟩ := R (μ.push (potL s)) μ.sz s (by rw [Sto.sz_push]; omega) v
    rw [Sto.put_self (Sto.get_push_same _ _)] at e4
    exact ⟨μ2, by simp only [obx, osx, s_rai, fl_ex, if_ex, ec_ex, en_ex, cut_samex, v_hrd, hr_ok, hr_ex, v_isE, t_isE, isE_err, v_fld, fld_err, v_isB, t_isB, isb_b, v_rev, revR, n_isE, or_true, true_or, or_false, false_or, and_true, true_and, and_false, false_and, or_self, and_self, not_false_eq_true, not_true_eq_false, ite_self, lcD_rng, forS_rng, fuel_rng, rng2, rng3, rng4, rngI2, rngI3, rngI4, rng8, rngI8, all0, all1, all2, all3, Bool.and_true, Bool.true_and, Bool.and_false, Bool.false_and, Sto.put_put, ib, ist, ifl, iif, ien, icu, jI, jB, jT, andB, orB, andC, orC, notB, decide_eq_true_eq, cut_same, cut_pp, v_lcm, fuel_itm, lcD_itm, forS_itm, s_for, m_nil, m_cons, mc_some, mc_none, imc, lt_def, yes_def, dt_none, dt_some, w_nil, w_cons, own_nil, own_cons, z_nil, z_nil2, z_cons, e_nil, e_cons, lk0, lk1, lk2, lk3, lk4, ea_nil, ea_cons, ec_nx, ec_ct, ec_bk, ec_rt, iec, List.nil_append, List.cons_append, ob, os, oo, ol, q_cons, q_nil, fl_nx, fl_rt, if_yes, if_no, if_ok, en_rt, en_nx, s_set, s_setLc, s_ret, s_retN, s_dro, s_ife, s_par, s_par3, s_tgt, v_var, v_cst, v_glo, v_tup, v_lst, v_tupS, v_lstS, v_mls, v_bin, v_neg, v_not, t_not, v_cmp, t_cmp, v_chn, t_chn, v_isN, t_isN, v_and, v_or, t_and, t_or, v_ife, t_ife, v_idx, v_slc, v_cal, t_cal, v_blt, t_blt, v_isi, t_isi, t_var, v_lrg, v_rpr, v_frz, n_nil, n_cons, f_nil, f_cons, f_star, o_none, o_some, i_seq, i_rng1, i_rng2, i_zip, i_enu, var_0, var_s, cl_call, bAdd, bSub, cLt, cLe, cGt, cGe, cEq, cNe, cEqR, cNeR, nNeg, tBl, tIn, aAbs, aInt, aIntB, aMin, aMax, aLenT, aLenR, aTupT, aTupR, aLstR, aLstT, lq0, lq1, lq2, lq3, lq4, lq5, lq6, isiI, isiB, isiT, isiL, isiN, isiSt, isii, isib, isitt, idxT, idxR, at20, at21, at2m, at30, at31, at32, at3m, at40, at41, at42, at43, at4m, seqT, seqR, sqT, sqR, asT, asR, zipT, zipR, enuR, n_isN, n_isT, n_isI, n_isL, n_isS, d_bnd, g_nm, g_tp, g_nil, g_cons, Option.map_some, Option.map_none, Option.bind_some, if_true, if_false, Bool.false_eq_true, Bool.not_true, Bool.not_false, List.set_cons_zero, List.set_cons_succ, decide_true, decide_false, reduceCtorEq, e3, e4]⟩) (by unfold LIM; omega)
  obtain ⟨μ2, ec⟩ := cut_ex μ0 μ' (.bl true)
  refine ⟨μ2, ?_⟩
  rw [st_law, hb]
  simp only [obx, osx, s_rai, fl_ex, if_ex, ec_ex, en_ex, cut_samex, v_hrd, hr_ok, hr_ex, v_isE, t_isE, isE_err, v_fld, fld_err, v_isB, t_isB, isb_b, v_rev, revR, n_isE, or_true, true_or, or_false, false_or, and_true, true_and, and_false, false_and, or_self, and_self, not_false_eq_true, not_true_eq_false, ite_self, lcD_rng, forS_rng, fuel_rng, rng2, rng3, rng4, rngI2, rngI3, rngI4, rng8, rngI8, all0, all1, all2, all3, Bool.and_true, Bool.true_and, Bool.and_false, Bool.false_and, Sto.put_put, ib, ist, ifl, iif, ien, icu, jI, jB, jT, andB, orB, andC, orC, notB, decide_eq_true_eq, cut_same, cut_pp, v_lcm, fuel_itm, lcD_itm, forS_itm, s_for, m_nil, m_cons, mc_some, mc_none, imc, lt_def, yes_def, dt_none, dt_some, w_nil, w_cons, own_nil, own_cons, z_nil, z_nil2, z_cons, e_nil, e_cons, lk0, lk1, lk2, lk3, lk4, ea_nil, ea_cons, ec_nx, ec_ct, ec_bk, ec_rt, iec, List.nil_append, List.cons_append, ob, os, oo, ol, q_cons, q_nil, fl_nx, fl_rt, if_yes, if_no, if_ok, en_rt, en_nx, s_set, s_setLc, s_ret, s_retN, s_dro, s_ife, s_par, s_par3, s_tgt, v_var, v_cst, v_glo, v_tup, v_lst, v_tupS, v_lstS, v_mls, v_bin, v_neg, v_not, t_not, v_cmp, t_cmp, v_chn, t_chn, v_isN, t_isN, v_and, v_or, t_and, t_or, v_ife, t_ife, v_idx, v_slc, v_cal, t_cal, v_blt, t_blt, v_isi, t_isi, t_var, v_lrg, v_rpr, v_frz, n_nil, n_cons, f_nil, f_cons, f_star, o_none, o_some, i_seq, i_rng1, i_rng2, i_zip, i_enu, var_0, var_s, cl_call, bAdd, bSub, cLt, cLe, cGt, cGe, cEq, cNe, cEqR, cNeR, nNeg, tBl, tIn, aAbs, aInt, aIntB, aMin, aMax, aLenT, aLenR, aTupT, aTupR, aLstR, aLstT, lq0, lq1, lq2, lq3, lq4, lq5, lq6, isiI, isiB, isiT, isiL, isiN, isiSt, isii, isib, isitt, idxT, idxR, at20, at21, at2m, at30, at31, at32, at3m, at40, at41, at42, at43, at4m, seqT, seqR, sqT, sqR, asT, asR, zipT, zipR, enuR, n_isN, n_isT, n_isI, n_isL, n_isS, d_bnd, g_nm, g_tp, g_nil, g_cons, Option.map_some, Option.map_none, Option.bind_some, if_true, if_false, Bool.false_eq_true, Bool.not_true, Bool.not_false, List.set_cons_zero, List.set_cons_succ, decide_true, decide_false, reduceCtorEq, e1, e2, all_yes]
  exact ec

end Rf



set_option Elab.async false
set_option linter.all false
set_option maxRecDepth 100000
set_option maxHeartbeats 4000000
/-! k05: Inside -/
namespace Rf
open PySem PySem.Spec PyProof.Rows L2
/-! ### lists of items -/
theorem mapD_all {α : Type} {f : D → Sto → Out (Option D)} {g h : α → D} : ∀ (ps : List α) (acc : List D) (μ : Sto), (∀ a ∈ ps, f (g a) μ = .ok (some (h a)) μ) → acc.length + ps.length ≤ LIM → mapD f (ps.map g) acc μ = .ok (acc ++ ps.map h) μ
  | [], acc, μ, _, _ => by rw [List.map_nil, List.map_nil, List.append_nil]; rfl
  | a :: r, acc, μ, H, hl => by
    rw [List.length_cons] at hl
    rw [List.map_cons, m_cons, H a List.mem_cons_self, mc_some, if_pos (by omega), mapD_all r (acc ++ [h a]) μ (fun b hb => H b (List.mem_cons_of_mem _ hb)) (by rw [List.length_append, List.length_singleton]; omega), List.map_cons, List.append_assoc]
    rfl
theorem mapD_filter {α : Type} {f : D → Sto → Out (Option D)} {g h : α → D} {c : α → Bool} : ∀ (ps : List α) (acc : List D) (μ : Sto), (∀ a ∈ ps, f (g a) μ = .ok (if c a = true then some (h a) else none) μ) → acc.length + ps.length ≤ LIM → mapD f (ps.map g) acc μ = .ok (acc ++ (ps.filter c).map h) μ
  | [], acc, μ, _, _ => by rw [List.map_nil, List.filter_nil, List.map_nil, List.append_nil]; rfl
  | a :: r, acc, μ, H, hl => by
    rw [List.length_cons] at hl
    rw [List.map_cons, m_cons, H a List.mem_cons_self, List.filter_cons]
    by_cases hc : c a = true
    · rw [if_pos hc, if_pos hc, mc_some, if_pos (by omega), mapD_filter r (acc ++ [h a]) μ (fun b hb => H b (List.mem_cons_of_mem _ hb)) (by rw [List.length_append, List.length_singleton]; omega), List.map_cons, List.append_assoc]
      rfl
    · rw [if_neg hc, if_neg hc, mc_none, mapD_filter r acc μ (fun b hb => H b (List.mem_cons_of_mem _ hb)) (by omega)]
theorem zipD_map {α β : Type} (f : α → D) (g : β → D) : ∀ (xs : List α) (ys : List β), zipD (xs.map f) (ys.map g) = (xs.zip ys).map fun p => .tup [f p.1, g p.2]
  | [], _ => by cases ‹List β› <;> rfl
  | _ :: _, [] => rfl
  | x :: xs, y :: ys => by
    rw [List.map_cons, List.map_cons, List.zip_cons_cons, List.map_cons, ← zipD_map f g xs ys]
    rfl
theorem bls_map {α : Type} (c : α → Bool) : ∀ l : List α, blsOf (l.map fun a => D.bl (c a)) = some (l.map c)
  | [] => rfl
  | a :: r => by
    rw [List.map_cons]
    unfold blsOf
    rw [bls_map c r]
    rfl
theorem cEqB {μ : Sto} {a b : Bool} : cmpD μ .Eq (.bl a) (.bl b) = some (decide (a = b)) := rfl
theorem sIx_one {n : Nat} (h : 1 ≤ n) (d : Nat) : HT.sIx n d (some 1) = 1 := by
  have e := HT.sIx_nat n d 1
  rw [show ((1 : Nat) : Int) = 1 from rfl] at e
  rw [e]
  omega
theorem cut_tail {ds : List D} (h : 1 ≤ ds.length) : cutD ds (some 1) none = ds.tail := by
  unfold cutD
  rw [sIx_one h]
  show (ds.drop 1).take (ds.length - 1) = _
  rw [List.drop_one, List.take_of_length_le (by rw [List.length_tail]; omega)]
theorem cut_first {ds : List D} (h : 1 ≤ ds.length) : cutD ds none (some 1) = ds.take 1 := by
  unfold cutD
  rw [sIx_one h]
  rfl
/-- the stretches of a closed line, as zip tells them -/
theorem zip_line (ps : List P3) : zipD (ps.map pD) ((ps.map pD).tail ++ (ps.map pD).take 1) = (prs ps).map fun p => .tup [pD p.1, pD p.2] := by
  rw [← List.map_tail, ← List.map_take, ← List.map_append, zipD_map, zip_prs]
theorem prs_length {α : Type} : ∀ l : List α, (prs l).length = l.length
  | [] => rfl
  | a :: r => by
    have key : ∀ (f a : α) (r : List α), (cpr f a r).length = r.length + 1 := by
      intro f a r
      induction r generalizing a with
      | nil => rfl
      | cons b r ih => show (cpr f b r).length + 1 = _; rw [ih]; rfl
    exact key a a r
/-! ### a spot about a stretch -/
theorem c_is_out (n : Nat) (A B S : P3) (μ : Sto) (hA : BdP A 500000) (hB : BdP B 500000) (hS : BdP S 500000) : CN (n + 2) "is_out" [pD A, pD B, pD S] μ = .ok (.bl (ahead S (lowP A B) || ahead (highP A B) S)) μ := by
  rw [st_is_out]; unfold b_is_out
  simp (disch := (repeat' first | assumption | apply bd_ite)) only [obx, osx, s_rai, fl_ex, if_ex, ec_ex, en_ex, cut_samex, v_hrd, hr_ok, hr_ex, v_isE, t_isE, isE_err, v_fld, fld_err, v_isB, t_isB, isb_b, v_rev, revR, n_isE, or_true, true_or, or_false, false_or, and_true, true_and, and_false, false_and, or_self, and_self, not_false_eq_true, not_true_eq_false, ite_self, lcD_rng, forS_rng, fuel_rng, rng2, rng3, rng4, rngI2, rngI3, rngI4, rng8, rngI8, all0, all1, all2, all3, Bool.and_true, Bool.true_and, Bool.and_false, Bool.false_and, Sto.put_put, ib, ist, ifl, iif, ien, icu, jI, jB, jT, andB, orB, andC, orC, notB, decide_eq_true_eq, cut_same, cut_pp, v_lcm, fuel_itm, lcD_itm, forS_itm, s_for, m_nil, m_cons, mc_some, mc_none, imc, lt_def, yes_def, dt_none, dt_some, w_nil, w_cons, own_nil, own_cons, z_nil, z_nil2, z_cons, e_nil, e_cons, lk0, lk1, lk2, lk3, lk4, ea_nil, ea_cons, ec_nx, ec_ct, ec_bk, ec_rt, iec, List.nil_append, List.cons_append, ob, os, oo, ol, q_cons, q_nil, fl_nx, fl_rt, if_yes, if_no, if_ok, en_rt, en_nx, s_set, s_setLc, s_ret, s_retN, s_dro, s_ife, s_par, s_par3, s_tgt, v_var, v_cst, v_glo, v_tup, v_lst, v_tupS, v_lstS, v_mls, v_bin, v_neg, v_not, t_not, v_cmp, t_cmp, v_chn, t_chn, v_isN, t_isN, v_and, v_or, t_and, t_or, v_ife, t_ife, v_idx, v_slc, v_cal, t_cal, v_blt, t_blt, v_isi, t_isi, t_var, v_lrg, v_rpr, v_frz, n_nil, n_cons, f_nil, f_cons, f_star, o_none, o_some, i_seq, i_rng1, i_rng2, i_zip, i_enu, var_0, var_s, cl_call, bAdd, bSub, cLt, cLe, cGt, cGe, cEq, cNe, cEqR, cNeR, nNeg, tBl, tIn, aAbs, aInt, aIntB, aMin, aMax, aLenT, aLenR, aTupT, aTupR, aLstR, aLstT, lq0, lq1, lq2, lq3, lq4, lq5, lq6, isiI, isiB, isiT, isiL, isiN, isiSt, isii, isib, isitt, idxT, idxR, at20, at21, at2m, at30, at31, at32, at3m, at40, at41, at42, at43, at4m, seqT, seqR, sqT, sqR, asT, asR, zipT, zipR, enuR, n_isN, n_isT, n_isI, n_isL, n_isS, d_bnd, g_nm, g_tp, g_nil, g_cons, Option.map_some, Option.map_none, Option.bind_some, if_true, if_false, Bool.false_eq_true, Bool.not_true, Bool.not_false, List.set_cons_zero, List.set_cons_succ, decide_true, decide_false, reduceCtorEq, c_ahead, j2, jP, jPo, lowP, highP]
  cases ahead S (if ahead B A = true then B else A) <;> cases ahead (if ahead B A = true then A else B) S <;> rfl
theorem c_lies_on (n : Nat) (A B S : P3) (μ : Sto) (hA : BdP A 200000) (hB : BdP B 200000) (hS : BdP S 200000) : CN (n + 3) "lies_on" [pD A, pD B, pD S] μ = .ok (.bl (onB A B S)) μ := by
  have e1 := c_line_side (n + 0) A B S μ hA hB hS
  have e2 := c_is_out n A B S μ (hA.mono (by decide)) (hB.mono (by decide)) (hS.mono (by decide))
  rw [st_lies_on]; unfold b_lies_on onB
  by_cases h : det A B S = 0
  · simp only [obx, osx, s_rai, fl_ex, if_ex, ec_ex, en_ex, cut_samex, v_hrd, hr_ok, hr_ex, v_isE, t_isE, isE_err, v_fld, fld_err, v_isB, t_isB, isb_b, v_rev, revR, n_isE, or_true, true_or, or_false, false_or, and_true, true_and, and_false, false_and, or_self, and_self, not_false_eq_true, not_true_eq_false, ite_self, lcD_rng, forS_rng, fuel_rng, rng2, rng3, rng4, rngI2, rngI3, rngI4, rng8, rngI8, all0, all1, all2, all3, Bool.and_true, Bool.true_and, Bool.and_false, Bool.false_and, Sto.put_put, ib, ist, ifl, iif, ien, icu, jI, jB, jT, andB, orB, andC, orC, notB, decide_eq_true_eq, cut_same, cut_pp, v_lcm, fuel_itm, lcD_itm, forS_itm, s_for, m_nil, m_cons, mc_some, mc_none, imc, lt_def, yes_def, dt_none, dt_some, w_nil, w_cons, own_nil, own_cons, z_nil, z_nil2, z_cons, e_nil, e_cons, lk0, lk1, lk2, lk3, lk4, ea_nil, ea_cons, ec_nx, ec_ct, ec_bk, ec_rt, iec, List.nil_append, List.cons_append, ob, os, oo, ol, q_cons, q_nil, fl_nx, fl_rt, if_yes, if_no, if_ok, en_rt, en_nx, s_set, s_setLc, s_ret, s_retN, s_dro, s_ife, s_par, s_par3, s_tgt, v_var, v_cst, v_glo, v_tup, v_lst, v_tupS, v_lstS, v_mls, v_bin, v_neg, v_not, t_not, v_cmp, t_cmp, v_chn, t_chn, v_isN, t_isN, v_and, v_or, t_and, t_or, v_ife, t_ife, v_idx, v_slc, v_cal, t_cal, v_blt, t_blt, v_isi, t_isi, t_var, v_lrg, v_rpr, v_frz, n_nil, n_cons, f_nil, f_cons, f_star, o_none, o_some, i_seq, i_rng1, i_rng2, i_zip, i_enu, var_0, var_s, cl_call, bAdd, bSub, cLt, cLe, cGt, cGe, cEq, cNe, cEqR, cNeR, nNeg, tBl, tIn, aAbs, aInt, aIntB, aMin, aMax, aLenT, aLenR, aTupT, aTupR, aLstR, aLstT, lq0, lq1, lq2, lq3, lq4, lq5, lq6, isiI, isiB, isiT, isiL, isiN, isiSt, isii, isib, isitt, idxT, idxR, at20, at21, at2m, at30, at31, at32, at3m, at40, at41, at42, at43, at4m, seqT, seqR, sqT, sqR, asT, asR, zipT, zipR, enuR, n_isN, n_isT, n_isI, n_isL, n_isS, d_bnd, g_nm, g_tp, g_nil, g_cons, Option.map_some, Option.map_none, Option.bind_some, if_true, if_false, Bool.false_eq_true, Bool.not_true, Bool.not_false, List.set_cons_zero, List.set_cons_succ, decide_true, decide_false, reduceCtorEq, e1, e2, sgn0, h]
  · simp only [obx, osx, s_rai, fl_ex, if_ex, ec_ex, en_ex, cut_samex, v_hrd, hr_ok, hr_ex, v_isE, t_isE, isE_err, v_fld, fld_err, v_isB, t_isB, isb_b, v_rev, revR, n_isE, or_true, true_or, or_false, false_or, and_true, true_and, and_false, false_and, or_self, and_self, not_false_eq_true, not_true_eq_false, ite_self, lcD_rng, forS_rng, fuel_rng, rng2, rng3, rng4, rngI2, rngI3, rngI4, rng8, rngI8, all0, all1, all2, all3, Bool.and_true, Bool.true_and, Bool.and_false, Bool.false_and, Sto.put_put, ib, ist, ifl, iif, ien, icu, jI, jB, jT, andB, orB, andC, orC, notB, decide_eq_true_eq, cut_same, cut_pp, v_lcm, fuel_itm, lcD_itm, forS_itm, s_for, m_nil, m_cons, mc_some, mc_none, imc, lt_def, yes_def, dt_none, dt_some, w_nil, w_cons, own_nil, own_cons, z_nil, z_nil2, z_cons, e_nil, e_cons, lk0, lk1, lk2, lk3, lk4, ea_nil, ea_cons, ec_nx, ec_ct, ec_bk, ec_rt, iec, List.nil_append, List.cons_append, ob, os, oo, ol, q_cons, q_nil, fl_nx, fl_rt, if_yes, if_no, if_ok, en_rt, en_nx, s_set, s_setLc, s_ret, s_retN, s_dro, s_ife, s_par, s_par3, s_tgt, v_var, v_cst, v_glo, v_tup, v_lst, v_tupS, v_lstS, v_mls, v_bin, v_neg, v_not, t_not, v_cmp, t_cmp, v_chn, t_chn, v_isN, t_isN, v_and, v_or, t_and, t_or, v_ife, t_ife, v_idx, v_slc, v_cal, t_cal, v_blt, t_blt, v_isi, t_isi, t_var, v_lrg, v_rpr, v_frz, n_nil, n_cons, f_nil, f_cons, f_star, o_none, o_some, i_seq, i_rng1, i_rng2, i_zip, i_enu, var_0, var_s, cl_call, bAdd, bSub, cLt, cLe, cGt, cGe, cEq, cNe, cEqR, cNeR, nNeg, tBl, tIn, aAbs, aInt, aIntB, aMin, aMax, aLenT, aLenR, aTupT, aTupR, aLstR, aLstT, lq0, lq1, lq2, lq3, lq4, lq5, lq6, isiI, isiB, isiT, isiL, isiN, isiSt, isii, isib, isitt, idxT, idxR, at20, at21, at2m, at30, at31, at32, at3m, at40, at41, at42, at43, at4m, seqT, seqR, sqT, sqR, asT, asR, zipT, zipR, enuR, n_isN, n_isT, n_isI, n_isL, n_isS, d_bnd, g_nm, g_tp, g_nil, g_cons, Option.map_some, Option.map_none, Option.bind_some, if_true, if_false, Bool.false_eq_true, Bool.not_true, Bool.not_false, List.set_cons_zero, List.set_cons_succ, decide_true, decide_false, reduceCtorEq, e1, e2, sgn0, h]
theorem c_over2 (n : Nat) (A B S : P3) (μ : Sto) (hA : BdP A 200000) (hB : BdP B 200000) (hS : BdP S 200000) : CN (n + 3) "is_over" [pD A, pD B, pD S] μ = .ok (.bl (ovrB A B S)) μ := by
  have e1 := c_line_side (n + 0) A B S μ hA hB hS
  have e2 := c_line_side (n + 0) B A S μ hB hA hS
  obtain ⟨a1, a2, a3⟩ := hA
  obtain ⟨b1, b2, b3⟩ := hB
  obtain ⟨s1, s2, s3⟩ := hS
  have sp : ∀ i : Int, (0 < sgn i) = (0 < i) := fun i => propext (by unfold sgn; split <;> (try split) <;> omega)
  rw [st_is_over]; unfold b_is_over ovrB
  cases x : decide (A.2.1 * S.2.2 ≤ S.2.1 * A.2.2) <;> cases y : decide (B.2.1 * S.2.2 ≤ S.2.1 * B.2.2) <;> simp (disch := first | assumption | rfl | exact lt_big (by (repeat' first | assumption | exact (show _ < 2 ^ 64 by decide) | apply mul_bd | apply add_bd | apply sub_bd | apply neg_bd)) (by decide) | exact lt_mid (by (repeat' first | assumption | exact (show _ < 2 ^ 64 by decide) | apply mul_bd | apply add_bd | apply sub_bd | apply neg_bd)) (by decide) | exact bigW (by (repeat' first | assumption | exact (show _ < 2 ^ 64 by decide) | apply mul_bd | apply add_bd | apply sub_bd | apply neg_bd)) (by decide)) only [obx, osx, s_rai, fl_ex, if_ex, ec_ex, en_ex, cut_samex, v_hrd, hr_ok, hr_ex, v_isE, t_isE, isE_err, v_fld, fld_err, v_isB, t_isB, isb_b, v_rev, revR, n_isE, or_true, true_or, or_false, false_or, and_true, true_and, and_false, false_and, or_self, and_self, not_false_eq_true, not_true_eq_false, ite_self, lcD_rng, forS_rng, fuel_rng, rng2, rng3, rng4, rngI2, rngI3, rngI4, rng8, rngI8, all0, all1, all2, all3, Bool.and_true, Bool.true_and, Bool.and_false, Bool.false_and, Sto.put_put, ib, ist, ifl, iif, ien, icu, jI, jB, jT, andB, orB, andC, orC, notB, decide_eq_true_eq, cut_same, cut_pp, v_lcm, fuel_itm, lcD_itm, forS_itm, s_for, m_nil, m_cons, mc_some, mc_none, imc, lt_def, yes_def, dt_none, dt_some, w_nil, w_cons, own_nil, own_cons, z_nil, z_nil2, z_cons, e_nil, e_cons, lk0, lk1, lk2, lk3, lk4, ea_nil, ea_cons, ec_nx, ec_ct, ec_bk, ec_rt, iec, List.nil_append, List.cons_append, ob, os, oo, ol, q_cons, q_nil, fl_nx, fl_rt, if_yes, if_no, if_ok, en_rt, en_nx, s_set, s_setLc, s_ret, s_retN, s_dro, s_ife, s_par, s_par3, s_tgt, v_var, v_cst, v_glo, v_tup, v_lst, v_tupS, v_lstS, v_mls, v_bin, v_neg, v_not, t_not, v_cmp, t_cmp, v_chn, t_chn, v_isN, t_isN, v_and, v_or, t_and, t_or, v_ife, t_ife, v_idx, v_slc, v_cal, t_cal, v_blt, t_blt, v_isi, t_isi, t_var, v_lrg, v_rpr, v_frz, n_nil, n_cons, f_nil, f_cons, f_star, o_none, o_some, i_seq, i_rng1, i_rng2, i_zip, i_enu, var_0, var_s, cl_call, bAdd, bSub, cLt, cLe, cGt, cGe, cEq, cNe, cEqR, cNeR, nNeg, tBl, tIn, aAbs, aInt, aIntB, aMin, aMax, aLenT, aLenR, aTupT, aTupR, aLstR, aLstT, lq0, lq1, lq2, lq3, lq4, lq5, lq6, isiI, isiB, isiT, isiL, isiN, isiSt, isii, isib, isitt, idxT, idxR, at20, at21, at2m, at30, at31, at32, at3m, at40, at41, at42, at43, at4m, seqT, seqR, sqT, sqR, asT, asR, zipT, zipR, enuR, n_isN, n_isT, n_isI, n_isL, n_isS, d_bnd, g_nm, g_tp, g_nil, g_cons, Option.map_some, Option.map_none, Option.bind_some, if_true, if_false, Bool.false_eq_true, Bool.not_true, Bool.not_false, List.set_cons_zero, List.set_cons_succ, decide_true, decide_false, reduceCtorEq, bMul, e1, e2, sp, x, y, cEqB, eq_self]
/-! ### a closed line -/
structure Ring (ps : List P3) (e : Nat) : Prop where
  len : 3 ≤ ps.length
  lim : ps.length ≤ 1000
  nm : ∀ P ∈ ps, NmP P
  bd : ∀ P ∈ ps, BdP P e
  ne : ∀ p ∈ prs ps, p.1 ≠ p.2
theorem Ring.mono {ps : List P3} {e f : Nat} (h : Ring ps e) (g : e ≤ f) : Ring ps f := ⟨h.len, h.lim, h.nm, fun P hP => (h.bd P hP).mono g, h.ne⟩
theorem line_cut {ps : List P3} (h : 1 ≤ ps.length) : cutD (ps.map pD) (some 1) none = (ps.map pD).tail ∧ cutD (ps.map pD) none (some 1) = (ps.map pD).take 1 := ⟨cut_tail (by rw [List.length_map]; exact h), cut_first (by rw [List.length_map]; exact h)⟩
theorem line_add {ps : List P3} {μ : Sto} (h : ps.length ≤ 1000) : binD .Add (.tup ((ps.map pD).tail)) (.tup ((ps.map pD).take 1)) μ = some (.tup ((ps.map pD).tail ++ (ps.map pD).take 1), μ) :=
  bCatT (by rw [List.length_tail, List.length_take, List.length_map]; unfold LIM; omega)
theorem c_closed (n : Nat) (ps : List P3) (μ : Sto) (h : Ring ps 1000000) : CN (n + 3) "is_closed_line" [.tup (ps.map pD)] μ = .ok (.bl true) μ := by
  obtain ⟨c1, c2⟩ := line_cut (ps := ps) (by have := h.len; omega)
  have ca := line_add (ps := ps) (μ := μ) h.lim
  have hl : ¬ ((ps.map pD).length : Int) < 3 := by rw [List.length_map]; have := h.len; omega
  have l1 : ps.length ≤ LIM := by have := h.lim; unfold LIM; omega
  have l2 : ([] : List D).length + ps.length ≤ LIM := by simpa using l1
  have l3 : ([] : List D).length + (prs ps).length ≤ LIM := by rw [prs_length]; exact l2
  have m1 := mapD_all (f := lcTurn (.nm 1) [some (.tup (ps.map pD)), none, none] yesT (den ⟨WF, CN (n + 2)⟩ (.cal "is_point" (.cons (.var 1) .nil))).1) (g := pD) (h := fun _ => .bl true) ps [] μ (fun P hP => by
    have e := c_point n P μ (h.nm P hP) (h.bd P hP)
    simp only [obx, osx, s_rai, fl_ex, if_ex, ec_ex, en_ex, cut_samex, v_hrd, hr_ok, hr_ex, v_isE, t_isE, isE_err, v_fld, fld_err, v_isB, t_isB, isb_b, v_rev, revR, n_isE, or_true, true_or, or_false, false_or, and_true, true_and, and_false, false_and, or_self, and_self, not_false_eq_true, not_true_eq_false, ite_self, lcD_rng, forS_rng, fuel_rng, rng2, rng3, rng4, rngI2, rngI3, rngI4, rng8, rngI8, all0, all1, all2, all3, Bool.and_true, Bool.true_and, Bool.and_false, Bool.false_and, Sto.put_put, ib, ist, ifl, iif, ien, icu, jI, jB, jT, andB, orB, andC, orC, notB, decide_eq_true_eq, cut_same, cut_pp, v_lcm, fuel_itm, lcD_itm, forS_itm, s_for, m_nil, m_cons, mc_some, mc_none, imc, lt_def, yes_def, dt_none, dt_some, w_nil, w_cons, own_nil, own_cons, z_nil, z_nil2, z_cons, e_nil, e_cons, lk0, lk1, lk2, lk3, lk4, ea_nil, ea_cons, ec_nx, ec_ct, ec_bk, ec_rt, iec, List.nil_append, List.cons_append, ob, os, oo, ol, q_cons, q_nil, fl_nx, fl_rt, if_yes, if_no, if_ok, en_rt, en_nx, s_set, s_setLc, s_ret, s_retN, s_dro, s_ife, s_par, s_par3, s_tgt, v_var, v_cst, v_glo, v_tup, v_lst, v_tupS, v_lstS, v_mls, v_bin, v_neg, v_not, t_not, v_cmp, t_cmp, v_chn, t_chn, v_isN, t_isN, v_and, v_or, t_and, t_or, v_ife, t_ife, v_idx, v_slc, v_cal, t_cal, v_blt, t_blt, v_isi, t_isi, t_var, v_lrg, v_rpr, v_frz, n_nil, n_cons, f_nil, f_cons, f_star, o_none, o_some, i_seq, i_rng1, i_rng2, i_zip, i_enu, var_0, var_s, cl_call, bAdd, bSub, cLt, cLe, cGt, cGe, cEq, cNe, cEqR, cNeR, nNeg, tBl, tIn, aAbs, aInt, aIntB, aMin, aMax, aLenT, aLenR, aTupT, aTupR, aLstR, aLstT, lq0, lq1, lq2, lq3, lq4, lq5, lq6, isiI, isiB, isiT, isiL, isiN, isiSt, isii, isib, isitt, idxT, idxR, at20, at21, at2m, at30, at31, at32, at3m, at40, at41, at42, at43, at4m, seqT, seqR, sqT, sqR, asT, asR, zipT, zipR, enuR, n_isN, n_isT, n_isI, n_isL, n_isS, d_bnd, g_nm, g_tp, g_nil, g_cons, Option.map_some, Option.map_none, Option.bind_some, if_true, if_false, Bool.false_eq_true, Bool.not_true, Bool.not_false, List.set_cons_zero, List.set_cons_succ, decide_true, decide_false, reduceCtorEq, e]) l2
  have m2 := mapD_all (f := lcTurn (.tp [.nm 1, .nm 2]) [some (.tup (ps.map pD)), none, none] yesT (den ⟨WF, CN (n + 2)⟩ (.cmp .NotEq (.var 1) (.var 2))).1) (g := fun p : P3 × P3 => .tup [pD p.1, pD p.2]) (h := fun _ => .bl true) (prs ps) [] μ (fun p hp => by
    have e := h.ne p hp
    simp only [obx, osx, s_rai, fl_ex, if_ex, ec_ex, en_ex, cut_samex, v_hrd, hr_ok, hr_ex, v_isE, t_isE, isE_err, v_fld, fld_err, v_isB, t_isB, isb_b, v_rev, revR, n_isE, or_true, true_or, or_false, false_or, and_true, true_and, and_false, false_and, or_self, and_self, not_false_eq_true, not_true_eq_false, ite_self, lcD_rng, forS_rng, fuel_rng, rng2, rng3, rng4, rngI2, rngI3, rngI4, rng8, rngI8, all0, all1, all2, all3, Bool.and_true, Bool.true_and, Bool.and_false, Bool.false_and, Sto.put_put, ib, ist, ifl, iif, ien, icu, jI, jB, jT, andB, orB, andC, orC, notB, decide_eq_true_eq, cut_same, cut_pp, v_lcm, fuel_itm, lcD_itm, forS_itm, s_for, m_nil, m_cons, mc_some, mc_none, imc, lt_def, yes_def, dt_none, dt_some, w_nil, w_cons, own_nil, own_cons, z_nil, z_nil2, z_cons, e_nil, e_cons, lk0, lk1, lk2, lk3, lk4, ea_nil, ea_cons, ec_nx, ec_ct, ec_bk, ec_rt, iec, List.nil_append, List.cons_append, ob, os, oo, ol, q_cons, q_nil, fl_nx, fl_rt, if_yes, if_no, if_ok, en_rt, en_nx, s_set, s_setLc, s_ret, s_retN, s_dro, s_ife, s_par, s_par3, s_tgt, v_var, v_cst, v_glo, v_tup, v_lst, v_tupS, v_lstS, v_mls, v_bin, v_neg, v_not, t_not, v_cmp, t_cmp, v_chn, t_chn, v_isN, t_isN, v_and, v_or, t_and, t_or, v_ife, t_ife, v_idx, v_slc, v_cal, t_cal, v_blt, t_blt, v_isi, t_isi, t_var, v_lrg, v_rpr, v_frz, n_nil, n_cons, f_nil, f_cons, f_star, o_none, o_some, i_seq, i_rng1, i_rng2, i_zip, i_enu, var_0, var_s, cl_call, bAdd, bSub, cLt, cLe, cGt, cGe, cEq, cNe, cEqR, cNeR, nNeg, tBl, tIn, aAbs, aInt, aIntB, aMin, aMax, aLenT, aLenR, aTupT, aTupR, aLstR, aLstT, lq0, lq1, lq2, lq3, lq4, lq5, lq6, isiI, isiB, isiT, isiL, isiN, isiSt, isii, isib, isitt, idxT, idxR, at20, at21, at2m, at30, at31, at32, at3m, at40, at41, at42, at43, at4m, seqT, seqR, sqT, sqR, asT, asR, zipT, zipR, enuR, n_isN, n_isT, n_isI, n_isL, n_isS, d_bnd, g_nm, g_tp, g_nil, g_cons, Option.map_some, Option.map_none, Option.bind_some, if_true, if_false, Bool.false_eq_true, Bool.not_true, Bool.not_false, List.set_cons_zero, List.set_cons_succ, decide_true, decide_false, reduceCtorEq, cNeP, e]) l3
  have b1 : ∀ {α : Type} (l : List α), blsOf (l.map fun _ => D.bl true) = some (l.map fun _ => true) := fun l => bls_map (fun _ => true) l
  have a1 : ∀ {α : Type} (l : List α), (l.map fun _ => true).all id = true := fun l => by simp
  rw [st_is_closed_line]; unfold b_is_closed_line
  simp only [obx, osx, s_rai, fl_ex, if_ex, ec_ex, en_ex, cut_samex, v_hrd, hr_ok, hr_ex, v_isE, t_isE, isE_err, v_fld, fld_err, v_isB, t_isB, isb_b, v_rev, revR, n_isE, or_true, true_or, or_false, false_or, and_true, true_and, and_false, false_and, or_self, and_self, not_false_eq_true, not_true_eq_false, ite_self, lcD_rng, forS_rng, fuel_rng, rng2, rng3, rng4, rngI2, rngI3, rngI4, rng8, rngI8, all0, all1, all2, all3, Bool.and_true, Bool.true_and, Bool.and_false, Bool.false_and, Sto.put_put, ib, ist, ifl, iif, ien, icu, jI, jB, jT, andB, orB, andC, orC, notB, decide_eq_true_eq, cut_same, cut_pp, v_lcm, fuel_itm, lcD_itm, forS_itm, s_for, m_nil, m_cons, mc_some, mc_none, imc, lt_def, yes_def, dt_none, dt_some, w_nil, w_cons, own_nil, own_cons, z_nil, z_nil2, z_cons, e_nil, e_cons, lk0, lk1, lk2, lk3, lk4, ea_nil, ea_cons, ec_nx, ec_ct, ec_bk, ec_rt, iec, List.nil_append, List.cons_append, ob, os, oo, ol, q_cons, q_nil, fl_nx, fl_rt, if_yes, if_no, if_ok, en_rt, en_nx, s_set, s_setLc, s_ret, s_retN, s_dro, s_ife, s_par, s_par3, s_tgt, v_var, v_cst, v_glo, v_tup, v_lst, v_tupS, v_lstS, v_mls, v_bin, v_neg, v_not, t_not, v_cmp, t_cmp, v_chn, t_chn, v_isN, t_isN, v_and, v_or, t_and, t_or, v_ife, t_ife, v_idx, v_slc, v_cal, t_cal, v_blt, t_blt, v_isi, t_isi, t_var, v_lrg, v_rpr, v_frz, n_nil, n_cons, f_nil, f_cons, f_star, o_none, o_some, i_seq, i_rng1, i_rng2, i_zip, i_enu, var_0, var_s, cl_call, bAdd, bSub, cLt, cLe, cGt, cGe, cEq, cNe, cEqR, cNeR, nNeg, tBl, tIn, aAbs, aInt, aIntB, aMin, aMax, aLenT, aLenR, aTupT, aTupR, aLstR, aLstT, lq0, lq1, lq2, lq3, lq4, lq5, lq6, isiI, isiB, isiT, isiL, isiN, isiSt, isii, isib, isitt, idxT, idxR, at20, at21, at2m, at30, at31, at32, at3m, at40, at41, at42, at43, at4m, seqT, seqR, sqT, sqR, asT, asR, zipT, zipR, enuR, n_isN, n_isT, n_isI, n_isL, n_isS, d_bnd, g_nm, g_tp, g_nil, g_cons, Option.map_some, Option.map_none, Option.bind_some, if_true, if_false, Bool.false_eq_true, Bool.not_true, Bool.not_false, List.set_cons_zero, List.set_cons_succ, decide_true, decide_false, reduceCtorEq, slcT, c1, c2, ca, hl, zip_line, m1, m2, aAll (b1 _), a1]
theorem c_odd (n : Nat) (ps : List P3) (S : P3) (μ : Sto) (h : Ring ps 200000) (hS : BdP S 200000) : CN (n + 4) "is_odd_about" [.tup (ps.map pD), pD S] μ = .ok (.bl (oddP ps S)) μ := by
  obtain ⟨c1, c2⟩ := line_cut (ps := ps) (by have := h.len; omega)
  have ca := line_add (ps := ps) (μ := μ) h.lim
  have l3 : ([] : List D).length + (prs ps).length ≤ LIM := by rw [prs_length]; have := h.lim; unfold LIM; simp only [List.length_nil]; omega
  have m2 := mapD_filter (f := lcTurn (.tp [.nm 3, .nm 4]) [some (.tup (ps.map pD)), some (pD S), none, none, none] (den ⟨WF, CN (n + 3)⟩ (.cal "is_over" (.cons (.var 3) (.cons (.var 4) (.cons (.var 1) .nil))))).2 (den ⟨WF, CN (n + 3)⟩ (.cst (.int 1))).1) (g := fun p : P3 × P3 => .tup [pD p.1, pD p.2]) (h := fun _ => .int 1) (c := fun p => ovrB p.1 p.2 S) (prs ps) [] μ (fun p hp => by
    have e := c_over2 n p.1 p.2 S μ (h.bd _ (prs_mem hp).1) (h.bd _ (prs_mem hp).2) hS
    simp only [obx, osx, s_rai, fl_ex, if_ex, ec_ex, en_ex, cut_samex, v_hrd, hr_ok, hr_ex, v_isE, t_isE, isE_err, v_fld, fld_err, v_isB, t_isB, isb_b, v_rev, revR, n_isE, or_true, true_or, or_false, false_or, and_true, true_and, and_false, false_and, or_self, and_self, not_false_eq_true, not_true_eq_false, ite_self, lcD_rng, forS_rng, fuel_rng, rng2, rng3, rng4, rngI2, rngI3, rngI4, rng8, rngI8, all0, all1, all2, all3, Bool.and_true, Bool.true_and, Bool.and_false, Bool.false_and, Sto.put_put, ib, ist, ifl, iif, ien, icu, jI, jB, jT, andB, orB, andC, orC, notB, decide_eq_true_eq, cut_same, cut_pp, v_lcm, fuel_itm, lcD_itm, forS_itm, s_for, m_nil, m_cons, mc_some, mc_none, imc, lt_def, yes_def, dt_none, dt_some, w_nil, w_cons, own_nil, own_cons, z_nil, z_nil2, z_cons, e_nil, e_cons, lk0, lk1, lk2, lk3, lk4, ea_nil, ea_cons, ec_nx, ec_ct, ec_bk, ec_rt, iec, List.nil_append, List.cons_append, ob, os, oo, ol, q_cons, q_nil, fl_nx, fl_rt, if_yes, if_no, if_ok, en_rt, en_nx, s_set, s_setLc, s_ret, s_retN, s_dro, s_ife, s_par, s_par3, s_tgt, v_var, v_cst, v_glo, v_tup, v_lst, v_tupS, v_lstS, v_mls, v_bin, v_neg, v_not, t_not, v_cmp, t_cmp, v_chn, t_chn, v_isN, t_isN, v_and, v_or, t_and, t_or, v_ife, t_ife, v_idx, v_slc, v_cal, t_cal, v_blt, t_blt, v_isi, t_isi, t_var, v_lrg, v_rpr, v_frz, n_nil, n_cons, f_nil, f_cons, f_star, o_none, o_some, i_seq, i_rng1, i_rng2, i_zip, i_enu, var_0, var_s, cl_call, bAdd, bSub, cLt, cLe, cGt, cGe, cEq, cNe, cEqR, cNeR, nNeg, tBl, tIn, aAbs, aInt, aIntB, aMin, aMax, aLenT, aLenR, aTupT, aTupR, aLstR, aLstT, lq0, lq1, lq2, lq3, lq4, lq5, lq6, isiI, isiB, isiT, isiL, isiN, isiSt, isii, isib, isitt, idxT, idxR, at20, at21, at2m, at30, at31, at32, at3m, at40, at41, at42, at43, at4m, seqT, seqR, sqT, sqR, asT, asR, zipT, zipR, enuR, n_isN, n_isT, n_isI, n_isL, n_isS, d_bnd, g_nm, g_tp, g_nil, g_cons, Option.map_some, Option.map_none, Option.bind_some, if_true, if_false, Bool.false_eq_true, Bool.not_true, Bool.not_false, List.set_cons_zero, List.set_cons_succ, decide_true, decide_false, reduceCtorEq, e]
    cases ovrB p.1 p.2 S <;> rfl) l3
  have e2 : ((((prs ps).filter fun p => ovrB p.1 p.2 S).length : Nat) : Int).fmod 2 = (((((prs ps).filter fun p => ovrB p.1 p.2 S).length % 2 : Nat)) : Int) := fmod_nat _ 2
  have e3 : decide (((((prs ps).filter fun p => ovrB p.1 p.2 S).length % 2 : Nat) : Int) = 1) = oddP ps S := by
    unfold oddP
    rw [odd_count, decide_eq_decide]
    omega
  have e4 : ∀ {α : Type} (l : List α), bltD μ .len [.rol (l.map fun _ => D.int 1)] = some (.int l.length, μ) := fun l => by rw [aLenR, List.length_map]
  rw [st_is_odd_about]; unfold b_is_odd_about
  simp only [obx, osx, s_rai, fl_ex, if_ex, ec_ex, en_ex, cut_samex, v_hrd, hr_ok, hr_ex, v_isE, t_isE, isE_err, v_fld, fld_err, v_isB, t_isB, isb_b, v_rev, revR, n_isE, or_true, true_or, or_false, false_or, and_true, true_and, and_false, false_and, or_self, and_self, not_false_eq_true, not_true_eq_false, ite_self, lcD_rng, forS_rng, fuel_rng, rng2, rng3, rng4, rngI2, rngI3, rngI4, rng8, rngI8, all0, all1, all2, all3, Bool.and_true, Bool.true_and, Bool.and_false, Bool.false_and, Sto.put_put, ib, ist, ifl, iif, ien, icu, jI, jB, jT, andB, orB, andC, orC, notB, decide_eq_true_eq, cut_same, cut_pp, v_lcm, fuel_itm, lcD_itm, forS_itm, s_for, m_nil, m_cons, mc_some, mc_none, imc, lt_def, yes_def, dt_none, dt_some, w_nil, w_cons, own_nil, own_cons, z_nil, z_nil2, z_cons, e_nil, e_cons, lk0, lk1, lk2, lk3, lk4, ea_nil, ea_cons, ec_nx, ec_ct, ec_bk, ec_rt, iec, List.nil_append, List.cons_append, ob, os, oo, ol, q_cons, q_nil, fl_nx, fl_rt, if_yes, if_no, if_ok, en_rt, en_nx, s_set, s_setLc, s_ret, s_retN, s_dro, s_ife, s_par, s_par3, s_tgt, v_var, v_cst, v_glo, v_tup, v_lst, v_tupS, v_lstS, v_mls, v_bin, v_neg, v_not, t_not, v_cmp, t_cmp, v_chn, t_chn, v_isN, t_isN, v_and, v_or, t_and, t_or, v_ife, t_ife, v_idx, v_slc, v_cal, t_cal, v_blt, t_blt, v_isi, t_isi, t_var, v_lrg, v_rpr, v_frz, n_nil, n_cons, f_nil, f_cons, f_star, o_none, o_some, i_seq, i_rng1, i_rng2, i_zip, i_enu, var_0, var_s, cl_call, bAdd, bSub, cLt, cLe, cGt, cGe, cEq, cNe, cEqR, cNeR, nNeg, tBl, tIn, aAbs, aInt, aIntB, aMin, aMax, aLenT, aLenR, aTupT, aTupR, aLstR, aLstT, lq0, lq1, lq2, lq3, lq4, lq5, lq6, isiI, isiB, isiT, isiL, isiN, isiSt, isii, isib, isitt, idxT, idxR, at20, at21, at2m, at30, at31, at32, at3m, at40, at41, at42, at43, at4m, seqT, seqR, sqT, sqR, asT, asR, zipT, zipR, enuR, n_isN, n_isT, n_isI, n_isL, n_isS, d_bnd, g_nm, g_tp, g_nil, g_cons, Option.map_some, Option.map_none, Option.bind_some, if_true, if_false, Bool.false_eq_true, Bool.not_true, Bool.not_false, List.set_cons_zero, List.set_cons_succ, decide_true, decide_false, reduceCtorEq, slcT, c1, c2, ca, zip_line, m2, e4, bMod (show (2 : Int) ≠ 0 by decide), e2, e3]
/-! ### inside -/
theorem loop_in (n : Nat) (x : Option D) (S : P3) (μ : Sto) (hS : BdP S 200000) : ∀ (l : List (P3 × P3)) (v w : Option D), (∀ p ∈ l, BdP p.1 200000 ∧ BdP p.2 200000) →
    ∃ v' w', eachD (.tp [.nm 2, .nm 3]) (exSs ⟨WF, CN (n + 3)⟩ [(.ife (.cal "lies_on" (.cons (.var 2) (.cons (.var 3) (.cons (.var 1) .nil)))) [(.rai "OnLine" (.var 1))] [])]) (l.map fun p => .tup [pD p.1, pD p.2]) [x, some (pD S), v, w] μ =
      if l.any (fun p => onB p.1 p.2 S) = true then .ok (.ex "OnLine" (pD S) [x, some (pD S), v', w']) μ else .ok (.nx [x, some (pD S), v', w']) μ
  | [], v, w, _ => ⟨v, w, rfl⟩
  | p :: r, v, w, h => by
    obtain ⟨b1, b2⟩ := h p List.mem_cons_self
    have e := c_lies_on n p.1 p.2 S μ b1 b2 hS
    obtain ⟨v', w', e'⟩ := loop_in n x S μ hS r (some (pD p.1)) (some (pD p.2)) fun q hq => h q (List.mem_cons_of_mem _ hq)
    rw [List.any_cons]
    by_cases z : onB p.1 p.2 S = true
    · refine ⟨some (pD p.1), some (pD p.2), ?_⟩
      rw [z]
      rw [z] at e
      simp only [obx, osx, s_rai, fl_ex, if_ex, ec_ex, en_ex, cut_samex, v_hrd, hr_ok, hr_ex, v_isE, t_isE, isE_err, v_fld, fld_err, v_isB, t_isB, isb_b, v_rev, revR, n_isE, or_true, true_or, or_false, false_or, and_true, true_and, and_false, false_and, or_self, and_self, not_false_eq_true, not_true_eq_false, ite_self, lcD_rng, forS_rng, fuel_rng, rng2, rng3, rng4, rngI2, rngI3, rngI4, rng8, rngI8, all0, all1, all2, all3, Bool.and_true, Bool.true_and, Bool.and_false, Bool.false_and, Sto.put_put, ib, ist, ifl, iif, ien, icu, jI, jB, jT, andB, orB, andC, orC, notB, decide_eq_true_eq, cut_same, cut_pp, v_lcm, fuel_itm, lcD_itm, forS_itm, s_for, m_nil, m_cons, mc_some, mc_none, imc, lt_def, yes_def, dt_none, dt_some, w_nil, w_cons, own_nil, own_cons, z_nil, z_nil2, z_cons, e_nil, e_cons, lk0, lk1, lk2, lk3, lk4, ea_nil, ea_cons, ec_nx, ec_ct, ec_bk, ec_rt, iec, List.nil_append, List.cons_append, ob, os, oo, ol, q_cons, q_nil, fl_nx, fl_rt, if_yes, if_no, if_ok, en_rt, en_nx, s_set, s_setLc, s_ret, s_retN, s_dro, s_ife, s_par, s_par3, s_tgt, v_var, v_cst, v_glo, v_tup, v_lst, v_tupS, v_lstS, v_mls, v_bin, v_neg, v_not, t_not, v_cmp, t_cmp, v_chn, t_chn, v_isN, t_isN, v_and, v_or, t_and, t_or, v_ife, t_ife, v_idx, v_slc, v_cal, t_cal, v_blt, t_blt, v_isi, t_isi, t_var, v_lrg, v_rpr, v_frz, n_nil, n_cons, f_nil, f_cons, f_star, o_none, o_some, i_seq, i_rng1, i_rng2, i_zip, i_enu, var_0, var_s, cl_call, bAdd, bSub, cLt, cLe, cGt, cGe, cEq, cNe, cEqR, cNeR, nNeg, tBl, tIn, aAbs, aInt, aIntB, aMin, aMax, aLenT, aLenR, aTupT, aTupR, aLstR, aLstT, lq0, lq1, lq2, lq3, lq4, lq5, lq6, isiI, isiB, isiT, isiL, isiN, isiSt, isii, isib, isitt, idxT, idxR, at20, at21, at2m, at30, at31, at32, at3m, at40, at41, at42, at43, at4m, seqT, seqR, sqT, sqR, asT, asR, zipT, zipR, enuR, n_isN, n_isT, n_isI, n_isL, n_isS, d_bnd, g_nm, g_tp, g_nil, g_cons, Option.map_some, Option.map_none, Option.bind_some, if_true, if_false, Bool.false_eq_true, Bool.not_true, Bool.not_false, List.set_cons_zero, List.set_cons_succ, decide_true, decide_false, reduceCtorEq, List.map_cons, e, Bool.true_or]
    · have z : onB p.1 p.2 S = false := by cases q : onB p.1 p.2 S; rfl; exact absurd q z
      refine ⟨v', w', ?_⟩
      rw [z]
      rw [z] at e
      simp only [obx, osx, s_rai, fl_ex, if_ex, ec_ex, en_ex, cut_samex, v_hrd, hr_ok, hr_ex, v_isE, t_isE, isE_err, v_fld, fld_err, v_isB, t_isB, isb_b, v_rev, revR, n_isE, or_true, true_or, or_false, false_or, and_true, true_and, and_false, false_and, or_self, and_self, not_false_eq_true, not_true_eq_false, ite_self, lcD_rng, forS_rng, fuel_rng, rng2, rng3, rng4, rngI2, rngI3, rngI4, rng8, rngI8, all0, all1, all2, all3, Bool.and_true, Bool.true_and, Bool.and_false, Bool.false_and, Sto.put_put, ib, ist, ifl, iif, ien, icu, jI, jB, jT, andB, orB, andC, orC, notB, decide_eq_true_eq, cut_same, cut_pp, v_lcm, fuel_itm, lcD_itm, forS_itm, s_for, m_nil, m_cons, mc_some, mc_none, imc, lt_def, yes_def, dt_none, dt_some, w_nil, w_cons, own_nil, own_cons, z_nil, z_nil2, z_cons, e_nil, e_cons, lk0, lk1, lk2, lk3, lk4, ea_nil, ea_cons, ec_nx, ec_ct, ec_bk, ec_rt, iec, List.nil_append, List.cons_append, ob, os, oo, ol, q_cons, q_nil, fl_nx, fl_rt, if_yes, if_no, if_ok, en_rt, en_nx, s_set, s_setLc, s_ret, s_retN, s_dro, s_ife, s_par, s_par3, s_tgt, v_var, v_cst, v_glo, v_tup, v_lst, v_tupS, v_lstS, v_mls, v_bin, v_neg, v_not, t_not, v_cmp, t_cmp, v_chn, t_chn, v_isN, t_isN, v_and, v_or, t_and, t_or, v_ife, t_ife, v_idx, v_slc, v_cal, t_cal, v_blt, t_blt, v_isi, t_isi, t_var, v_lrg, v_rpr, v_frz, n_nil, n_cons, f_nil, f_cons, f_star, o_none, o_some, i_seq, i_rng1, i_rng2, i_zip, i_enu, var_0, var_s, cl_call, bAdd, bSub, cLt, cLe, cGt, cGe, cEq, cNe, cEqR, cNeR, nNeg, tBl, tIn, aAbs, aInt, aIntB, aMin, aMax, aLenT, aLenR, aTupT, aTupR, aLstR, aLstT, lq0, lq1, lq2, lq3, lq4, lq5, lq6, isiI, isiB, isiT, isiL, isiN, isiSt, isii, isib, isitt, idxT, idxR, at20, at21, at2m, at30, at31, at32, at3m, at40, at41, at42, at43, at4m, seqT, seqR, sqT, sqR, asT, asR, zipT, zipR, enuR, n_isN, n_isT, n_isI, n_isL, n_isS, d_bnd, g_nm, g_tp, g_nil, g_cons, Option.map_some, Option.map_none, Option.bind_some, if_true, if_false, Bool.false_eq_true, Bool.not_true, Bool.not_false, List.set_cons_zero, List.set_cons_succ, decide_true, decide_false, reduceCtorEq, List.map_cons, e, Bool.false_or]
      exact e'
theorem c_inside (n : Nat) (ps : List P3) (S : P3) (μ : Sto) (h : Ring ps 200000) (nS : NmP S) (hS : BdP S 200000) :
    CN (n + 5) "inside" [.tup (ps.map pD), pD S] μ = if anyP ps S = true then .exc "OnLine" (pD S) μ else .ok (.bl (oddP ps S)) μ := by
  obtain ⟨c1, c2⟩ := line_cut (ps := ps) (by have := h.len; omega)
  have ca := line_add (ps := ps) (μ := μ) h.lim
  have e1 := c_closed (n + 1) ps μ (h.mono (by decide))
  have e2 := c_check (n + 1) [pD S] μ (by
    intro d hd
    rw [List.mem_singleton.mp hd]
    exact ⟨S, rfl, nS, hS.mono (by decide)⟩)
  have e3 := c_odd n ps S μ h hS
  obtain ⟨v', w', e4⟩ := loop_in (n + 1) (some (.tup (ps.map pD))) S μ hS (prs ps) none none fun p hp => ⟨h.bd _ (prs_mem hp).1, h.bd _ (prs_mem hp).2⟩
  rw [st_inside]; unfold b_inside anyP
  by_cases z : (prs ps).any (fun p => onB p.1 p.2 S) = true
  · rw [if_pos z] at e4 ⊢
    simp only [obx, osx, s_rai, fl_ex, if_ex, ec_ex, en_ex, cut_samex, v_hrd, hr_ok, hr_ex, v_isE, t_isE, isE_err, v_fld, fld_err, v_isB, t_isB, isb_b, v_rev, revR, n_isE, or_true, true_or, or_false, false_or, and_true, true_and, and_false, false_and, or_self, and_self, not_false_eq_true, not_true_eq_false, ite_self, lcD_rng, forS_rng, fuel_rng, rng2, rng3, rng4, rngI2, rngI3, rngI4, rng8, rngI8, all0, all1, all2, all3, Bool.and_true, Bool.true_and, Bool.and_false, Bool.false_and, Sto.put_put, ib, ist, ifl, iif, ien, icu, jI, jB, jT, andB, orB, andC, orC, notB, decide_eq_true_eq, cut_same, cut_pp, v_lcm, fuel_itm, lcD_itm, forS_itm, s_for, m_nil, m_cons, mc_some, mc_none, imc, lt_def, yes_def, dt_none, dt_some, w_nil, w_cons, own_nil, own_cons, z_nil, z_nil2, z_cons, e_nil, e_cons, lk0, lk1, lk2, lk3, lk4, ea_nil, ea_cons, ec_nx, ec_ct, ec_bk, ec_rt, iec, List.nil_append, List.cons_append, ob, os, oo, ol, q_cons, q_nil, fl_nx, fl_rt, if_yes, if_no, if_ok, en_rt, en_nx, s_set, s_setLc, s_ret, s_retN, s_dro, s_ife, s_par, s_par3, s_tgt, v_var, v_cst, v_glo, v_tup, v_lst, v_tupS, v_lstS, v_mls, v_bin, v_neg, v_not, t_not, v_cmp, t_cmp, v_chn, t_chn, v_isN, t_isN, v_and, v_or, t_and, t_or, v_ife, t_ife, v_idx, v_slc, v_cal, t_cal, v_blt, t_blt, v_isi, t_isi, t_var, v_lrg, v_rpr, v_frz, n_nil, n_cons, f_nil, f_cons, f_star, o_none, o_some, i_seq, i_rng1, i_rng2, i_zip, i_enu, var_0, var_s, cl_call, bAdd, bSub, cLt, cLe, cGt, cGe, cEq, cNe, cEqR, cNeR, nNeg, tBl, tIn, aAbs, aInt, aIntB, aMin, aMax, aLenT, aLenR, aTupT, aTupR, aLstR, aLstT, lq0, lq1, lq2, lq3, lq4, lq5, lq6, isiI, isiB, isiT, isiL, isiN, isiSt, isii, isib, isitt, idxT, idxR, at20, at21, at2m, at30, at31, at32, at3m, at40, at41, at42, at43, at4m, seqT, seqR, sqT, sqR, asT, asR, zipT, zipR, enuR, n_isN, n_isT, n_isI, n_isL, n_isS, d_bnd, g_nm, g_tp, g_nil, g_cons, Option.map_some, Option.map_none, Option.bind_some, if_true, if_false, Bool.false_eq_true, Bool.not_true, Bool.not_false, List.set_cons_zero, List.set_cons_succ, decide_true, decide_false, reduceCtorEq, slcT, c1, c2, ca, zip_line, e1, e2, e4]
  · rw [if_neg z] at e4 ⊢
    simp only [obx, osx, s_rai, fl_ex, if_ex, ec_ex, en_ex, cut_samex, v_hrd, hr_ok, hr_ex, v_isE, t_isE, isE_err, v_fld, fld_err, v_isB, t_isB, isb_b, v_rev, revR, n_isE, or_true, true_or, or_false, false_or, and_true, true_and, and_false, false_and, or_self, and_self, not_false_eq_true, not_true_eq_false, ite_self, lcD_rng, forS_rng, fuel_rng, rng2, rng3, rng4, rngI2, rngI3, rngI4, rng8, rngI8, all0, all1, all2, all3, Bool.and_true, Bool.true_and, Bool.and_false, Bool.false_and, Sto.put_put, ib, ist, ifl, iif, ien, icu, jI, jB, jT, andB, orB, andC, orC, notB, decide_eq_true_eq, cut_same, cut_pp, v_lcm, fuel_itm, lcD_itm, forS_itm, s_for, m_nil, m_cons, mc_some, mc_none, imc, lt_def, yes_def, dt_none, dt_some, w_nil, w_cons, own_nil, own_cons, z_nil, z_nil2, z_cons, e_nil, e_cons, lk0, lk1, lk2, lk3, lk4, ea_nil, ea_cons, ec_nx, ec_ct, ec_bk, ec_rt, iec, List.nil_append, List.cons_append, ob, os, oo, ol, q_cons, q_nil, fl_nx, fl_rt, if_yes, if_no, if_ok, en_rt, en_nx, s_set, s_setLc, s_ret, s_retN, s_dro, s_ife, s_par, s_par3, s_tgt, v_var, v_cst, v_glo, v_tup, v_lst, v_tupS, v_lstS, v_mls, v_bin, v_neg, v_not, t_not, v_cmp, t_cmp, v_chn, t_chn, v_isN, t_isN, v_and, v_or, t_and, t_or, v_ife, t_ife, v_idx, v_slc, v_cal, t_cal, v_blt, t_blt, v_isi, t_isi, t_var, v_lrg, v_rpr, v_frz, n_nil, n_cons, f_nil, f_cons, f_star, o_none, o_some, i_seq, i_rng1, i_rng2, i_zip, i_enu, var_0, var_s, cl_call, bAdd, bSub, cLt, cLe, cGt, cGe, cEq, cNe, cEqR, cNeR, nNeg, tBl, tIn, aAbs, aInt, aIntB, aMin, aMax, aLenT, aLenR, aTupT, aTupR, aLstR, aLstT, lq0, lq1, lq2, lq3, lq4, lq5, lq6, isiI, isiB, isiT, isiL, isiN, isiSt, isii, isib, isitt, idxT, idxR, at20, at21, at2m, at30, at31, at32, at3m, at40, at41, at42, at43, at4m, seqT, seqR, sqT, sqR, asT, asR, zipT, zipR, enuR, n_isN, n_isT, n_isI, n_isL, n_isS, d_bnd, g_nm, g_tp, g_nil, g_cons, Option.map_some, Option.map_none, Option.bind_some, if_true, if_false, Bool.false_eq_true, Bool.not_true, Bool.not_false, List.set_cons_zero, List.set_cons_succ, decide_true, decide_false, reduceCtorEq, slcT, c1, c2, ca, zip_line, e1, e2, e4, e3]
/-! ### between -/
theorem c_share (n : Nat) (s : Fr) (μ : Sto) (rs : Red s) (hw : s.2.natAbs < WF) (h0 : 0 ≤ s.1) (h1 : s.1 ≤ s.2) : CN (n + 3) "is_share" [fD s] μ = .ok (.bl true) μ := by
  have g : Int.gcd s.1 s.2 = 1 := rs.gcd
  have g' : ((Int.gcd s.1 s.2 : Nat) : Int) = 1 := by rw [g]; rfl
  have e : ¬ s.2 < 1 := by have := rs.pos; omega
  have f : CN (n + 2) "is_fraction" [fD s] μ = .ok (.bl true) μ := by
    rw [st_is_fraction]; unfold b_is_fraction
    simp (disch := first | assumption | first | assumption | rfl | exact lt_big (by (repeat' first | assumption | exact (show _ < 2 ^ 64 by decide) | apply mul_bd | apply add_bd | apply sub_bd | apply neg_bd)) (by decide) | exact lt_mid (by (repeat' first | assumption | exact (show _ < 2 ^ 64 by decide) | apply mul_bd | apply add_bd | apply sub_bd | apply neg_bd)) (by decide) | exact bigW (by (repeat' first | assumption | exact (show _ < 2 ^ 64 by decide) | apply mul_bd | apply add_bd | apply sub_bd | apply neg_bd)) (by decide)) only [obx, osx, s_rai, fl_ex, if_ex, ec_ex, en_ex, cut_samex, v_hrd, hr_ok, hr_ex, v_isE, t_isE, isE_err, v_fld, fld_err, v_isB, t_isB, isb_b, v_rev, revR, n_isE, or_true, true_or, or_false, false_or, and_true, true_and, and_false, false_and, or_self, and_self, not_false_eq_true, not_true_eq_false, ite_self, lcD_rng, forS_rng, fuel_rng, rng2, rng3, rng4, rngI2, rngI3, rngI4, rng8, rngI8, all0, all1, all2, all3, Bool.and_true, Bool.true_and, Bool.and_false, Bool.false_and, Sto.put_put, ib, ist, ifl, iif, ien, icu, jI, jB, jT, andB, orB, andC, orC, notB, decide_eq_true_eq, cut_same, cut_pp, v_lcm, fuel_itm, lcD_itm, forS_itm, s_for, m_nil, m_cons, mc_some, mc_none, imc, lt_def, yes_def, dt_none, dt_some, w_nil, w_cons, own_nil, own_cons, z_nil, z_nil2, z_cons, e_nil, e_cons, lk0, lk1, lk2, lk3, lk4, ea_nil, ea_cons, ec_nx, ec_ct, ec_bk, ec_rt, iec, List.nil_append, List.cons_append, ob, os, oo, ol, q_cons, q_nil, fl_nx, fl_rt, if_yes, if_no, if_ok, en_rt, en_nx, s_set, s_setLc, s_ret, s_retN, s_dro, s_ife, s_par, s_par3, s_tgt, v_var, v_cst, v_glo, v_tup, v_lst, v_tupS, v_lstS, v_mls, v_bin, v_neg, v_not, t_not, v_cmp, t_cmp, v_chn, t_chn, v_isN, t_isN, v_and, v_or, t_and, t_or, v_ife, t_ife, v_idx, v_slc, v_cal, t_cal, v_blt, t_blt, v_isi, t_isi, t_var, v_lrg, v_rpr, v_frz, n_nil, n_cons, f_nil, f_cons, f_star, o_none, o_some, i_seq, i_rng1, i_rng2, i_zip, i_enu, var_0, var_s, cl_call, bAdd, bSub, cLt, cLe, cGt, cGe, cEq, cNe, cEqR, cNeR, nNeg, tBl, tIn, aAbs, aInt, aIntB, aMin, aMax, aLenT, aLenR, aTupT, aTupR, aLstR, aLstT, lq0, lq1, lq2, lq3, lq4, lq5, lq6, isiI, isiB, isiT, isiL, isiN, isiSt, isii, isib, isitt, idxT, idxR, at20, at21, at2m, at30, at31, at32, at3m, at40, at41, at42, at43, at4m, seqT, seqR, sqT, sqR, asT, asR, zipT, zipR, enuR, n_isN, n_isT, n_isI, n_isL, n_isS, d_bnd, g_nm, g_tp, g_nil, g_cons, Option.map_some, Option.map_none, Option.bind_some, if_true, if_false, Bool.false_eq_true, Bool.not_true, Bool.not_false, List.set_cons_zero, List.set_cons_succ, decide_true, decide_false, reduceCtorEq, c_whole, c_tup2, c_common, e, g', eq_self]
  rw [st_is_share]; unfold b_is_share
  simp only [obx, osx, s_rai, fl_ex, if_ex, ec_ex, en_ex, cut_samex, v_hrd, hr_ok, hr_ex, v_isE, t_isE, isE_err, v_fld, fld_err, v_isB, t_isB, isb_b, v_rev, revR, n_isE, or_true, true_or, or_false, false_or, and_true, true_and, and_false, false_and, or_self, and_self, not_false_eq_true, not_true_eq_false, ite_self, lcD_rng, forS_rng, fuel_rng, rng2, rng3, rng4, rngI2, rngI3, rngI4, rng8, rngI8, all0, all1, all2, all3, Bool.and_true, Bool.true_and, Bool.and_false, Bool.false_and, Sto.put_put, ib, ist, ifl, iif, ien, icu, jI, jB, jT, andB, orB, andC, orC, notB, decide_eq_true_eq, cut_same, cut_pp, v_lcm, fuel_itm, lcD_itm, forS_itm, s_for, m_nil, m_cons, mc_some, mc_none, imc, lt_def, yes_def, dt_none, dt_some, w_nil, w_cons, own_nil, own_cons, z_nil, z_nil2, z_cons, e_nil, e_cons, lk0, lk1, lk2, lk3, lk4, ea_nil, ea_cons, ec_nx, ec_ct, ec_bk, ec_rt, iec, List.nil_append, List.cons_append, ob, os, oo, ol, q_cons, q_nil, fl_nx, fl_rt, if_yes, if_no, if_ok, en_rt, en_nx, s_set, s_setLc, s_ret, s_retN, s_dro, s_ife, s_par, s_par3, s_tgt, v_var, v_cst, v_glo, v_tup, v_lst, v_tupS, v_lstS, v_mls, v_bin, v_neg, v_not, t_not, v_cmp, t_cmp, v_chn, t_chn, v_isN, t_isN, v_and, v_or, t_and, t_or, v_ife, t_ife, v_idx, v_slc, v_cal, t_cal, v_blt, t_blt, v_isi, t_isi, t_var, v_lrg, v_rpr, v_frz, n_nil, n_cons, f_nil, f_cons, f_star, o_none, o_some, i_seq, i_rng1, i_rng2, i_zip, i_enu, var_0, var_s, cl_call, bAdd, bSub, cLt, cLe, cGt, cGe, cEq, cNe, cEqR, cNeR, nNeg, tBl, tIn, aAbs, aInt, aIntB, aMin, aMax, aLenT, aLenR, aTupT, aTupR, aLstR, aLstT, lq0, lq1, lq2, lq3, lq4, lq5, lq6, isiI, isiB, isiT, isiL, isiN, isiSt, isii, isib, isitt, idxT, idxR, at20, at21, at2m, at30, at31, at32, at3m, at40, at41, at42, at43, at4m, seqT, seqR, sqT, sqR, asT, asR, zipT, zipR, enuR, n_isN, n_isT, n_isI, n_isL, n_isS, d_bnd, g_nm, g_tp, g_nil, g_cons, Option.map_some, Option.map_none, Option.bind_some, if_true, if_false, Bool.false_eq_true, Bool.not_true, Bool.not_false, List.set_cons_zero, List.set_cons_succ, decide_true, decide_false, reduceCtorEq, f, h0, h1]
theorem c_between (n : Nat) (A B : P3) (s : Fr) (μ : Sto) (nA : NmP A) (nB : NmP B) (rs : Red s) (h0 : 0 ≤ s.1) (h1 : s.1 ≤ s.2) (hA : BdP A 1800) (hB : BdP B 1800) (hs : BdF s 1800) : CN (n + 4) "between" [pD A, pD B, fD s] μ = .ok (pD (btw A B s)) μ := by
  have e := c_check n [pD A, pD B] μ (fun d hd => by
    simp only [List.mem_cons, List.not_mem_nil, or_false] at hd
    rcases hd with rfl | rfl
    · exact ⟨A, rfl, nA, hA.mono (by decide)⟩
    · exact ⟨B, rfl, nB, hB.mono (by decide)⟩)
  have es := c_share n s μ rs (bigW hs.2 (by decide)) h0 h1
  obtain ⟨a1, a2, a3⟩ := hA
  obtain ⟨b1, b2, b3⟩ := hB
  obtain ⟨s1, s2⟩ := hs
  have nb := btw_ne nA nB (red_ne rs)
  have bb : (s.2 * A.2.2 * B.2.2).natAbs < 2 ^ 8000 := le_bd (mul_bd (mul_bd s2 a3) b3) (by decide)
  have by' : (mixn s.1 s.2 A.2.1 A.2.2 B.2.1 B.2.2).natAbs < WF := bigW (mix_bd s1 s2 a2 a3 b2 b3) (by decide)
  have p := c_point_at (n + 1) (mixn s.1 s.2 A.1 A.2.2 B.1 B.2.2) (mixn s.1 s.2 A.2.1 A.2.2 B.2.1 B.2.2) (s.2 * A.2.2 * B.2.2) μ nb by' bb
  unfold mixn at p
  have c3 : ∀ a b c : D, cutD [a, b, c] none (some (-1)) = [a, b] := fun _ _ _ => rfl
  rw [st_between]; unfold b_between
  simp (disch := first | assumption | rfl | exact lt_big (by (repeat' first | assumption | exact (show _ < 2 ^ 64 by decide) | apply mul_bd | apply add_bd | apply sub_bd | apply neg_bd)) (by decide) | exact lt_mid (by (repeat' first | assumption | exact (show _ < 2 ^ 64 by decide) | apply mul_bd | apply add_bd | apply sub_bd | apply neg_bd)) (by decide) | exact bigW (by (repeat' first | assumption | exact (show _ < 2 ^ 64 by decide) | apply mul_bd | apply add_bd | apply sub_bd | apply neg_bd)) (by decide)) only [obx, osx, s_rai, fl_ex, if_ex, ec_ex, en_ex, cut_samex, v_hrd, hr_ok, hr_ex, v_isE, t_isE, isE_err, v_fld, fld_err, v_isB, t_isB, isb_b, v_rev, revR, n_isE, or_true, true_or, or_false, false_or, and_true, true_and, and_false, false_and, or_self, and_self, not_false_eq_true, not_true_eq_false, ite_self, lcD_rng, forS_rng, fuel_rng, rng2, rng3, rng4, rngI2, rngI3, rngI4, rng8, rngI8, all0, all1, all2, all3, Bool.and_true, Bool.true_and, Bool.and_false, Bool.false_and, Sto.put_put, ib, ist, ifl, iif, ien, icu, jI, jB, jT, andB, orB, andC, orC, notB, decide_eq_true_eq, cut_same, cut_pp, v_lcm, fuel_itm, lcD_itm, forS_itm, s_for, m_nil, m_cons, mc_some, mc_none, imc, lt_def, yes_def, dt_none, dt_some, w_nil, w_cons, own_nil, own_cons, z_nil, z_nil2, z_cons, e_nil, e_cons, lk0, lk1, lk2, lk3, lk4, ea_nil, ea_cons, ec_nx, ec_ct, ec_bk, ec_rt, iec, List.nil_append, List.cons_append, ob, os, oo, ol, q_cons, q_nil, fl_nx, fl_rt, if_yes, if_no, if_ok, en_rt, en_nx, s_set, s_setLc, s_ret, s_retN, s_dro, s_ife, s_par, s_par3, s_tgt, v_var, v_cst, v_glo, v_tup, v_lst, v_tupS, v_lstS, v_mls, v_bin, v_neg, v_not, t_not, v_cmp, t_cmp, v_chn, t_chn, v_isN, t_isN, v_and, v_or, t_and, t_or, v_ife, t_ife, v_idx, v_slc, v_cal, t_cal, v_blt, t_blt, v_isi, t_isi, t_var, v_lrg, v_rpr, v_frz, n_nil, n_cons, f_nil, f_cons, f_star, o_none, o_some, i_seq, i_rng1, i_rng2, i_zip, i_enu, var_0, var_s, cl_call, bAdd, bSub, cLt, cLe, cGt, cGe, cEq, cNe, cEqR, cNeR, nNeg, tBl, tIn, aAbs, aInt, aIntB, aMin, aMax, aLenT, aLenR, aTupT, aTupR, aLstR, aLstT, lq0, lq1, lq2, lq3, lq4, lq5, lq6, isiI, isiB, isiT, isiL, isiN, isiSt, isii, isib, isitt, idxT, idxR, at20, at21, at2m, at30, at31, at32, at3m, at40, at41, at42, at43, at4m, seqT, seqR, sqT, sqR, asT, asR, zipT, zipR, enuR, n_isN, n_isT, n_isI, n_isL, n_isS, d_bnd, g_nm, g_tp, g_nil, g_cons, Option.map_some, Option.map_none, Option.bind_some, if_true, if_false, Bool.false_eq_true, Bool.not_true, Bool.not_false, List.set_cons_zero, List.set_cons_succ, decide_true, decide_false, reduceCtorEq, e, es, slcT, c3, bMul, p, btw, mixn]
/-! ### closed lines led over; written ones -/
theorem ring_led {l : Ld} (h : l.Ok) {ps : List P3} {a e k : Nat} (r : Ring ps e) (ha : l.a.natAbs < 2 ^ a) (hu : l.u.natAbs < 2 ^ a) (hv : l.v.natAbs < 2 ^ a) (hd : l.d.natAbs < 2 ^ a) (hk : a + e + 1 ≤ k) : Ring (ps.map l.p) k :=
  ⟨by rw [List.length_map]; exact r.len, by rw [List.length_map]; exact r.lim, fun P hP => by obtain ⟨R, hR, rfl⟩ := List.mem_map.mp hP; exact ld_nm h (r.nm R hR),
    fun P hP => by obtain ⟨R, hR, rfl⟩ := List.mem_map.mp hP; exact ldp_bd h (r.nm R hR) ha hu hv hd (r.bd R hR) hk, Ring_led (Rg := Ring) h (e := 0) (k := 0) r.len r.nm r.ne⟩
def nmB (P : P3) : Bool := decide (0 < P.2.2) && decide (g3 P.1 P.2.1 P.2.2 = 1)
def bdB (P : P3) : Bool := decide (P.1.natAbs < 1024) && (decide (P.2.1.natAbs < 1024) && decide (P.2.2.natAbs < 1024))
theorem nmB_ok {P : P3} (h : nmB P = true) : NmP P := by
  obtain ⟨h1, h2⟩ := bq h
  exact ⟨of_decide_eq_true h1, of_decide_eq_true h2⟩
theorem bdB_ok {P : P3} (h : bdB P = true) : BdP P 10 := by
  obtain ⟨h1, h2⟩ := bq h
  obtain ⟨h2, h3⟩ := bq h2
  exact ⟨of_decide_eq_true h1, of_decide_eq_true h2, of_decide_eq_true h3⟩
def ringB (ps : List P3) : Bool := decide (3 ≤ ps.length) && (decide (ps.length ≤ 1000) && (ps.all nmB && (ps.all bdB && (prs ps).all fun p => decide (p.1 ≠ p.2))))
theorem ringB_ok {ps : List P3} (h : ringB ps = true) : Ring ps 10 := by
  obtain ⟨h1, h⟩ := bq h
  obtain ⟨h2, h⟩ := bq h
  obtain ⟨h3, h⟩ := bq h
  obtain ⟨h4, h5⟩ := bq h
  exact ⟨of_decide_eq_true h1, of_decide_eq_true h2, fun P hP => nmB_ok (List.all_eq_true.mp h3 P hP), fun P hP => bdB_ok (List.all_eq_true.mp h4 P hP), fun p hp => of_decide_eq_true (List.all_eq_true.mp h5 p hp)⟩

end Rf



set_option Elab.async false
set_option linter.all false
set_option maxRecDepth 100000
set_option maxHeartbeats 4000000
/-! k05: leaders, led points -/
namespace Rf
open PySem PySem.Spec PyProof.Rows L2
/-! ### own points of told ones -/
theorem red_eq {p q : Fr} (hp : Red p) (hq : Red q) (h : Q p.1 p.2 q.1 q.2) : p = q := by
  have g : ∀ {r : Fr}, Red r → Nm r.1 0 r.2 := fun {r} hr => ⟨hr.pos, by
    have e := hr.gcd
    show Nat.gcd (Int.natAbs (Int.gcd r.1 0)) r.2.natAbs = 1
    rw [Int.gcd_zero_right, Int.natAbs_natCast]
    exact e⟩
  obtain ⟨e1, _, e3⟩ := nm_unique (g hp) (g hq) h ⟨h.dn, h.en, by simp⟩
  obtain ⟨a, b⟩ := p
  obtain ⟨x, y⟩ := q
  have e1 : a = x := e1
  have e3 : b = y := e3
  rw [e1, e3]
theorem told_inj {a b : Fr × Fr} (ha : RedP a) (hb : RedP b) (h : toldP a = toldP b) : a = b := by
  obtain ⟨_, a1, a2⟩ := toldP_ok ha
  obtain ⟨_, b1, b2⟩ := toldP_ok hb
  rw [h] at a1 a2
  obtain ⟨p, q⟩ := a
  obtain ⟨r, s⟩ := b
  have e1 : p = r := red_eq ha.1 hb.1 (a1.symm.trans b1)
  have e2 : q = s := red_eq ha.2 hb.2 (a2.symm.trans b2)
  rw [e1, e2]
def ownP (P : P3) : Fr × Fr := (frc P.1 P.2.2, frc P.2.1 P.2.2)
theorem own_ok {P : P3} (h : NmP P) : RedP (ownP P) ∧ toldP (ownP P) = P := by
  obtain ⟨r1, q1, _, _⟩ := frc_spec (t := P.1) (nmP_ne h)
  obtain ⟨r2, q2, _, _⟩ := frc_spec (t := P.2.1) (nmP_ne h)
  obtain ⟨n, t1, t2⟩ := toldP_ok (a := ownP P) ⟨r1, r2⟩
  exact ⟨⟨r1, r2⟩, nmP_eq n h (t1.trans q1) (t2.trans q2)⟩
theorem own_bd {P : P3} {e : Nat} (h : NmP P) (b : BdP P e) : BdF (ownP P).1 e ∧ BdF (ownP P).2 e := ⟨frc_bd (nmP_ne h) b.1 b.2.2, frc_bd (nmP_ne h) b.2.1 b.2.2⟩
theorem c_own (n : Nat) (P : P3) (μ : Sto) (h : NmP P) (b : P.2.2.natAbs < 2 ^ 7900) : CN (n + 3) "_law_point_own" [pD P] μ = .ok (pqD (ownP P)) μ := by
  have e1 := c_frac n P.1 P.2.2 μ (nmP_ne h) (le_bd b (by decide))
  have e2 := c_frac n P.2.1 P.2.2 μ (nmP_ne h) (le_bd b (by decide))
  rw [st__law_point_own]; unfold b__law_point_own
  simp only [obx, osx, s_rai, fl_ex, if_ex, ec_ex, en_ex, cut_samex, v_hrd, hr_ok, hr_ex, v_isE, t_isE, isE_err, v_fld, fld_err, v_isB, t_isB, isb_b, v_rev, revR, n_isE, or_true, true_or, or_false, false_or, and_true, true_and, and_false, false_and, or_self, and_self, not_false_eq_true, not_true_eq_false, ite_self, lcD_rng, forS_rng, fuel_rng, rng2, rng3, rng4, rngI2, rngI3, rngI4, rng8, rngI8, all0, all1, all2, all3, Bool.and_true, Bool.true_and, Bool.and_false, Bool.false_and, Sto.put_put, ib, ist, ifl, iif, ien, icu, jI, jB, jT, andB, orB, andC, orC, notB, decide_eq_true_eq, cut_same, cut_pp, v_lcm, fuel_itm, lcD_itm, forS_itm, s_for, m_nil, m_cons, mc_some, mc_none, imc, lt_def, yes_def, dt_none, dt_some, w_nil, w_cons, own_nil, own_cons, z_nil, z_nil2, z_cons, e_nil, e_cons, lk0, lk1, lk2, lk3, lk4, ea_nil, ea_cons, ec_nx, ec_ct, ec_bk, ec_rt, iec, List.nil_append, List.cons_append, ob, os, oo, ol, q_cons, q_nil, fl_nx, fl_rt, if_yes, if_no, if_ok, en_rt, en_nx, s_set, s_setLc, s_ret, s_retN, s_dro, s_ife, s_par, s_par3, s_tgt, v_var, v_cst, v_glo, v_tup, v_lst, v_tupS, v_lstS, v_mls, v_bin, v_neg, v_not, t_not, v_cmp, t_cmp, v_chn, t_chn, v_isN, t_isN, v_and, v_or, t_and, t_or, v_ife, t_ife, v_idx, v_slc, v_cal, t_cal, v_blt, t_blt, v_isi, t_isi, t_var, v_lrg, v_rpr, v_frz, n_nil, n_cons, f_nil, f_cons, f_star, o_none, o_some, i_seq, i_rng1, i_rng2, i_zip, i_enu, var_0, var_s, cl_call, bAdd, bSub, cLt, cLe, cGt, cGe, cEq, cNe, cEqR, cNeR, nNeg, tBl, tIn, aAbs, aInt, aIntB, aMin, aMax, aLenT, aLenR, aTupT, aTupR, aLstR, aLstT, lq0, lq1, lq2, lq3, lq4, lq5, lq6, isiI, isiB, isiT, isiL, isiN, isiSt, isii, isib, isitt, idxT, idxR, at20, at21, at2m, at30, at31, at32, at3m, at40, at41, at42, at43, at4m, seqT, seqR, sqT, sqR, asT, asR, zipT, zipR, enuR, n_isN, n_isT, n_isI, n_isL, n_isS, d_bnd, g_nm, g_tp, g_nil, g_cons, Option.map_some, Option.map_none, Option.bind_some, if_true, if_false, Bool.false_eq_true, Bool.not_true, Bool.not_false, List.set_cons_zero, List.set_cons_succ, decide_true, decide_false, reduceCtorEq, e1, e2, ownP]
/-! ### leaders -/
def wS : W4 → Str
  | .st => "stay"
  | .tu => "turned"
  | .mi => "mirrored"
  | .ba => "back"
def lD (w : W4) (f : Fr) (s : Fr × Fr) : D := .tup [.str (wS w), pqD s, fD f]
theorem c_ledpt (n : Nat) (w : W4) (f : Fr) (s p : Fr × Fr) (μ : Sto) (rf : Red f) (rs : RedP s) (rp : RedP p) (bf : BdF f 300) (bs1 : BdF s.1 300) (bs2 : BdF s.2 300) (bp1 : BdF p.1 300) (bp2 : BdF p.2 300) :
    CN (n + 4) "_law_led_point" [lD w f s, pqD p] μ = .ok (pqD (ledO w f s p)) μ := by
  have one : ((1 : Int)) ≠ 0 := by decide
  have b1 : BdF ((-1, 1) : Fr) 10 := ⟨by decide, by decide⟩
  have m1 := c_times n (-1, 1) p.1 μ one (red_ne rp.1) (b1.mono (by decide)) (bp1.mono (by decide))
  have m2 := c_times n (-1, 1) p.2 μ one (red_ne rp.2) (b1.mono (by decide)) (bp2.mono (by decide))
  have o : ∀ {q : Fr}, Red q → BdF q 300 → Red (tms (-1, 1) q) ∧ BdF (tms (-1, 1) q) 310 := fun {q} r b => ⟨(tms_ok one (red_ne r)).1, (tms_b one (red_ne r) b1 b).mono (by decide)⟩
  have xy : (Red (w.ox p) ∧ BdF (w.ox p) 310) ∧ Red (w.oy p) ∧ BdF (w.oy p) 310 := by
    cases w with
    | st => exact ⟨⟨rp.1, bp1.mono (by decide)⟩, rp.2, bp2.mono (by decide)⟩
    | tu => exact ⟨o rp.2 bp2, rp.1, bp1.mono (by decide)⟩
    | mi => exact ⟨o rp.1 bp1, rp.2, bp2.mono (by decide)⟩
    | ba => exact ⟨o rp.1 bp1, o rp.2 bp2⟩
  obtain ⟨⟨rx, bx⟩, ry, by'⟩ := xy
  have t1 := c_times n f (w.ox p) μ (red_ne rf) (red_ne rx) (bf.mono (by decide)) (bx.mono (by decide))
  have t2 := c_times n f (w.oy p) μ (red_ne rf) (red_ne ry) (bf.mono (by decide)) (by'.mono (by decide))
  have n1 := tms_ne (red_ne rf) (red_ne rx)
  have n2 := tms_ne (red_ne rf) (red_ne ry)
  have u1 := c_plus n (tms f (w.ox p)) s.1 μ n1 (red_ne rs.1) ((tms_b (red_ne rf) (red_ne rx) bf bx).mono (by decide)) (bs1.mono (by decide))
  have u2 := c_plus n (tms f (w.oy p)) s.2 μ n2 (red_ne rs.2) ((tms_b (red_ne rf) (red_ne ry) bf by').mono (by decide)) (bs2.mono (by decide))
  have k1 : (("stay" : Str) = "turned") = False := by simp only [eq_iff_iff, iff_false]; decide
  have k2 : (("stay" : Str) = "mirrored") = False := by simp only [eq_iff_iff, iff_false]; decide
  have k3 : (("stay" : Str) = "back") = False := by simp only [eq_iff_iff, iff_false]; decide
  have k4 : (("mirrored" : Str) = "turned") = False := by simp only [eq_iff_iff, iff_false]; decide
  have k5 : (("back" : Str) = "turned") = False := by simp only [eq_iff_iff, iff_false]; decide
  have k6 : (("back" : Str) = "mirrored") = False := by simp only [eq_iff_iff, iff_false]; decide
  have fm : fD (-1, 1) = .tup [.int (-1), .int 1] := rfl
  rw [fm] at m1 m2
  unfold ledO
  rw [st__law_led_point]; unfold b__law_led_point lD wS
  cases w
  all_goals
    simp only [W4.ox, W4.oy] at t1 t2 u1 u2 ⊢
    simp only [obx, osx, s_rai, fl_ex, if_ex, ec_ex, en_ex, cut_samex, v_hrd, hr_ok, hr_ex, v_isE, t_isE, isE_err, v_fld, fld_err, v_isB, t_isB, isb_b, v_rev, revR, n_isE, or_true, true_or, or_false, false_or, and_true, true_and, and_false, false_and, or_self, and_self, not_false_eq_true, not_true_eq_false, ite_self, lcD_rng, forS_rng, fuel_rng, rng2, rng3, rng4, rngI2, rngI3, rngI4, rng8, rngI8, all0, all1, all2, all3, Bool.and_true, Bool.true_and, Bool.and_false, Bool.false_and, Sto.put_put, ib, ist, ifl, iif, ien, icu, jI, jB, jT, andB, orB, andC, orC, notB, decide_eq_true_eq, cut_same, cut_pp, v_lcm, fuel_itm, lcD_itm, forS_itm, s_for, m_nil, m_cons, mc_some, mc_none, imc, lt_def, yes_def, dt_none, dt_some, w_nil, w_cons, own_nil, own_cons, z_nil, z_nil2, z_cons, e_nil, e_cons, lk0, lk1, lk2, lk3, lk4, ea_nil, ea_cons, ec_nx, ec_ct, ec_bk, ec_rt, iec, List.nil_append, List.cons_append, ob, os, oo, ol, q_cons, q_nil, fl_nx, fl_rt, if_yes, if_no, if_ok, en_rt, en_nx, s_set, s_setLc, s_ret, s_retN, s_dro, s_ife, s_par, s_par3, s_tgt, v_var, v_cst, v_glo, v_tup, v_lst, v_tupS, v_lstS, v_mls, v_bin, v_neg, v_not, t_not, v_cmp, t_cmp, v_chn, t_chn, v_isN, t_isN, v_and, v_or, t_and, t_or, v_ife, t_ife, v_idx, v_slc, v_cal, t_cal, v_blt, t_blt, v_isi, t_isi, t_var, v_lrg, v_rpr, v_frz, n_nil, n_cons, f_nil, f_cons, f_star, o_none, o_some, i_seq, i_rng1, i_rng2, i_zip, i_enu, var_0, var_s, cl_call, bAdd, bSub, cLt, cLe, cGt, cGe, cEq, cNe, cEqR, cNeR, nNeg, tBl, tIn, aAbs, aInt, aIntB, aMin, aMax, aLenT, aLenR, aTupT, aTupR, aLstR, aLstT, lq0, lq1, lq2, lq3, lq4, lq5, lq6, isiI, isiB, isiT, isiL, isiN, isiSt, isii, isib, isitt, idxT, idxR, at20, at21, at2m, at30, at31, at32, at3m, at40, at41, at42, at43, at4m, seqT, seqR, sqT, sqR, asT, asR, zipT, zipR, enuR, n_isN, n_isT, n_isI, n_isL, n_isS, d_bnd, g_nm, g_tp, g_nil, g_cons, Option.map_some, Option.map_none, Option.bind_some, if_true, if_false, Bool.false_eq_true, Bool.not_true, Bool.not_false, List.set_cons_zero, List.set_cons_succ, decide_true, decide_false, reduceCtorEq, cEqS, k1, k2, k3, k4, k5, k6, eq_self, m1, m2, t1, t2, u1, u2]
/-- what is known of a leader -/
structure Lk (f : Fr) (s : Fr × Fr) : Prop where
  rf : Red f
  pf : 0 < f.1
  rs : RedP s
  bf : BdF f 40
  b1 : BdF s.1 10
  b2 : BdF s.2 10
section
variable {w : W4} {f : Fr} {s : Fr × Fr}
theorem Lk.ok (h : Lk f s) : (ldOf w f s).Ok := ldOf_ok h.pf h.rf.pos h.rs
theorem Lk.bd (h : Lk f s) : (ldOf w f s).a.natAbs < 2 ^ 60 ∧ (ldOf w f s).u.natAbs < 2 ^ 60 ∧ (ldOf w f s).v.natAbs < 2 ^ 60 ∧ (ldOf w f s).d.natAbs < 2 ^ 60 := by
  obtain ⟨_, _, _, f1, s1, s2⟩ := h
  exact ⟨mul_bd (mul_bd f1.1 s1.2) s2.2, mul_bd (mul_bd s1.1 f1.2) s2.2, mul_bd (mul_bd s2.1 f1.2) s1.2, mul_bd (mul_bd f1.2 s1.2) s2.2⟩
theorem Lk.bp (h : Lk f s) {P : P3} {e : Nat} (nP : NmP P) (b : BdP P e) : BdP ((ldOf w f s).p P) (61 + e) := by
  obtain ⟨h1, h2, h3, h4⟩ := h.bd (w := w)
  exact ldp_bd h.ok nP h1 h2 h3 h4 b (by omega)
theorem ledO_bd (h : Lk f s) {p : Fr × Fr} (rp : RedP p) (b1 : BdF p.1 280) (b2 : BdF p.2 280) : BdF (ledO w f s p).1 400 ∧ BdF (ledO w f s p).2 400 := by
  have one : ((1 : Int)) ≠ 0 := by decide
  have c1 : BdF ((-1, 1) : Fr) 10 := ⟨by decide, by decide⟩
  have o : ∀ {q : Fr}, Red q → BdF q 280 → Red (tms (-1, 1) q) ∧ BdF (tms (-1, 1) q) 290 := fun {q} r b => ⟨(tms_ok one (red_ne r)).1, (tms_b one (red_ne r) c1 b).mono (by decide)⟩
  have xy : (Red (w.ox p) ∧ BdF (w.ox p) 290) ∧ Red (w.oy p) ∧ BdF (w.oy p) 290 := by
    cases w with
    | st => exact ⟨⟨rp.1, b1.mono (by decide)⟩, rp.2, b2.mono (by decide)⟩
    | tu => exact ⟨o rp.2 b2, rp.1, b1.mono (by decide)⟩
    | mi => exact ⟨o rp.1 b1, rp.2, b2.mono (by decide)⟩
    | ba => exact ⟨o rp.1 b1, o rp.2 b2⟩
  obtain ⟨⟨rx, bx⟩, ry, by'⟩ := xy
  have n1 := tms_ne (red_ne h.rf) (red_ne rx)
  have n2 := tms_ne (red_ne h.rf) (red_ne ry)
  exact ⟨(pls_b n1 (red_ne h.rs.1) (tms_b (red_ne h.rf) (red_ne rx) h.bf bx) h.b1).mono (by decide), (pls_b n2 (red_ne h.rs.2) (tms_b (red_ne h.rf) (red_ne ry) h.bf by') h.b2).mono (by decide)⟩
theorem c_ledtold (n : Nat) (P : P3) (μ : Sto) (h : Lk f s) (nP : NmP P) (b : BdP P 280) : CN (n + 5) "_law_led_told" [lD w f s, pD P] μ = .ok (pD ((ldOf w f s).p P)) μ := by
  obtain ⟨ro, eo⟩ := own_ok nP
  obtain ⟨b1, b2⟩ := own_bd nP b
  have e1 := c_own (n + 1) P μ nP (le_bd b.2.2 (by decide))
  have e2 := c_ledpt n w f s (ownP P) μ h.rf h.rs ro (h.bf.mono (by decide)) (h.b1.mono (by decide)) (h.b2.mono (by decide)) (b1.mono (by decide)) (b2.mono (by decide))
  obtain ⟨rl, el⟩ := led_told (w := w) (f := f) (s := s) (p := ownP P) h.pf h.rf h.rs ro
  obtain ⟨d1, d2⟩ := ledO_bd (w := w) h ro b1 b2
  have e3 := c_told (n + 2) (ledO w f s (ownP P)) μ rl (d1.mono (by decide)) (d2.mono (by decide))
  rw [el, eo] at e3
  rw [st__law_led_told]; unfold b__law_led_told
  simp only [obx, osx, s_rai, fl_ex, if_ex, ec_ex, en_ex, cut_samex, v_hrd, hr_ok, hr_ex, v_isE, t_isE, isE_err, v_fld, fld_err, v_isB, t_isB, isb_b, v_rev, revR, n_isE, or_true, true_or, or_false, false_or, and_true, true_and, and_false, false_and, or_self, and_self, not_false_eq_true, not_true_eq_false, ite_self, lcD_rng, forS_rng, fuel_rng, rng2, rng3, rng4, rngI2, rngI3, rngI4, rng8, rngI8, all0, all1, all2, all3, Bool.and_true, Bool.true_and, Bool.and_false, Bool.false_and, Sto.put_put, ib, ist, ifl, iif, ien, icu, jI, jB, jT, andB, orB, andC, orC, notB, decide_eq_true_eq, cut_same, cut_pp, v_lcm, fuel_itm, lcD_itm, forS_itm, s_for, m_nil, m_cons, mc_some, mc_none, imc, lt_def, yes_def, dt_none, dt_some, w_nil, w_cons, own_nil, own_cons, z_nil, z_nil2, z_cons, e_nil, e_cons, lk0, lk1, lk2, lk3, lk4, ea_nil, ea_cons, ec_nx, ec_ct, ec_bk, ec_rt, iec, List.nil_append, List.cons_append, ob, os, oo, ol, q_cons, q_nil, fl_nx, fl_rt, if_yes, if_no, if_ok, en_rt, en_nx, s_set, s_setLc, s_ret, s_retN, s_dro, s_ife, s_par, s_par3, s_tgt, v_var, v_cst, v_glo, v_tup, v_lst, v_tupS, v_lstS, v_mls, v_bin, v_neg, v_not, t_not, v_cmp, t_cmp, v_chn, t_chn, v_isN, t_isN, v_and, v_or, t_and, t_or, v_ife, t_ife, v_idx, v_slc, v_cal, t_cal, v_blt, t_blt, v_isi, t_isi, t_var, v_lrg, v_rpr, v_frz, n_nil, n_cons, f_nil, f_cons, f_star, o_none, o_some, i_seq, i_rng1, i_rng2, i_zip, i_enu, var_0, var_s, cl_call, bAdd, bSub, cLt, cLe, cGt, cGe, cEq, cNe, cEqR, cNeR, nNeg, tBl, tIn, aAbs, aInt, aIntB, aMin, aMax, aLenT, aLenR, aTupT, aTupR, aLstR, aLstT, lq0, lq1, lq2, lq3, lq4, lq5, lq6, isiI, isiB, isiT, isiL, isiN, isiSt, isii, isib, isitt, idxT, idxR, at20, at21, at2m, at30, at31, at32, at3m, at40, at41, at42, at43, at4m, seqT, seqR, sqT, sqR, asT, asR, zipT, zipR, enuR, n_isN, n_isT, n_isI, n_isL, n_isS, d_bnd, g_nm, g_tp, g_nil, g_cons, Option.map_some, Option.map_none, Option.bind_some, if_true, if_false, Bool.false_eq_true, Bool.not_true, Bool.not_false, List.set_cons_zero, List.set_cons_succ, decide_true, decide_false, reduceCtorEq, e1, e2, e3]
/-- small own points -/
structure Sm (p : Fr × Fr) : Prop where
  r : RedP p
  b1 : BdF p.1 6
  b2 : BdF p.2 6
theorem Sm.nm {p : Fr × Fr} (h : Sm p) : NmP (toldP p) := (toldP_ok h.r).1
theorem Sm.bd {p : Fr × Fr} (h : Sm p) : BdP (toldP p) 12 := nm_bd h.r h.b1 h.b2 (by decide)
theorem c_tolds (n : Nat) (ps : List (Fr × Fr)) (μ : Sto) (h : Lk f s) (hp : ∀ p ∈ ps, Sm p) (hl : ps.length ≤ 100) : CN (n + 5) "_law_told" [lD w f s, .rol (ps.map pqD)] μ = .ok (.rol (((ps.map toldP).map (ldOf w f s).p).map pD)) μ := by
  have e1 := mapD_all (f := lcTurn (.nm 2) [some (lD w f s), some (.rol (ps.map pqD)), none] yesT (den ⟨WF, CN (n + 4)⟩ (.cal "_law_point_told" (.cons (.cal "_law_led_point" (.cons (.var 0) (.cons (.var 2) .nil))) .nil))).1) (g := pqD) (h := fun p => pD ((ldOf w f s).p (toldP p))) ps [] μ (fun p hpm => by
    have sm := hp p hpm
    have e2 := c_ledpt n w f s p μ h.rf h.rs sm.r (h.bf.mono (by decide)) (h.b1.mono (by decide)) (h.b2.mono (by decide)) (sm.b1.mono (by decide)) (sm.b2.mono (by decide))
    obtain ⟨rl, el⟩ := led_told (w := w) (f := f) (s := s) (p := p) h.pf h.rf h.rs sm.r
    obtain ⟨d1, d2⟩ := ledO_bd (w := w) h sm.r (sm.b1.mono (by decide)) (sm.b2.mono (by decide))
    have e3 := c_told (n + 2) (ledO w f s p) μ rl (d1.mono (by decide)) (d2.mono (by decide))
    rw [el] at e3
    simp only [obx, osx, s_rai, fl_ex, if_ex, ec_ex, en_ex, cut_samex, v_hrd, hr_ok, hr_ex, v_isE, t_isE, isE_err, v_fld, fld_err, v_isB, t_isB, isb_b, v_rev, revR, n_isE, or_true, true_or, or_false, false_or, and_true, true_and, and_false, false_and, or_self, and_self, not_false_eq_true, not_true_eq_false, ite_self, lcD_rng, forS_rng, fuel_rng, rng2, rng3, rng4, rngI2, rngI3, rngI4, rng8, rngI8, all0, all1, all2, all3, Bool.and_true, Bool.true_and, Bool.and_false, Bool.false_and, Sto.put_put, ib, ist, ifl, iif, ien, icu, jI, jB, jT, andB, orB, andC, orC, notB, decide_eq_true_eq, cut_same, cut_pp, v_lcm, fuel_itm, lcD_itm, forS_itm, s_for, m_nil, m_cons, mc_some, mc_none, imc, lt_def, yes_def, dt_none, dt_some, w_nil, w_cons, own_nil, own_cons, z_nil, z_nil2, z_cons, e_nil, e_cons, lk0, lk1, lk2, lk3, lk4, ea_nil, ea_cons, ec_nx, ec_ct, ec_bk, ec_rt, iec, List.nil_append, List.cons_append, ob, os, oo, ol, q_cons, q_nil, fl_nx, fl_rt, if_yes, if_no, if_ok, en_rt, en_nx, s_set, s_setLc, s_ret, s_retN, s_dro, s_ife, s_par, s_par3, s_tgt, v_var, v_cst, v_glo, v_tup, v_lst, v_tupS, v_lstS, v_mls, v_bin, v_neg, v_not, t_not, v_cmp, t_cmp, v_chn, t_chn, v_isN, t_isN, v_and, v_or, t_and, t_or, v_ife, t_ife, v_idx, v_slc, v_cal, t_cal, v_blt, t_blt, v_isi, t_isi, t_var, v_lrg, v_rpr, v_frz, n_nil, n_cons, f_nil, f_cons, f_star, o_none, o_some, i_seq, i_rng1, i_rng2, i_zip, i_enu, var_0, var_s, cl_call, bAdd, bSub, cLt, cLe, cGt, cGe, cEq, cNe, cEqR, cNeR, nNeg, tBl, tIn, aAbs, aInt, aIntB, aMin, aMax, aLenT, aLenR, aTupT, aTupR, aLstR, aLstT, lq0, lq1, lq2, lq3, lq4, lq5, lq6, isiI, isiB, isiT, isiL, isiN, isiSt, isii, isib, isitt, idxT, idxR, at20, at21, at2m, at30, at31, at32, at3m, at40, at41, at42, at43, at4m, seqT, seqR, sqT, sqR, asT, asR, zipT, zipR, enuR, n_isN, n_isT, n_isI, n_isL, n_isS, d_bnd, g_nm, g_tp, g_nil, g_cons, Option.map_some, Option.map_none, Option.bind_some, if_true, if_false, Bool.false_eq_true, Bool.not_true, Bool.not_false, List.set_cons_zero, List.set_cons_succ, decide_true, decide_false, reduceCtorEq, e2, e3]) (by unfold LIM; simp only [List.length_nil]; omega)
  have e2 : ps.map (fun p => pD ((ldOf w f s).p (toldP p))) = ((ps.map toldP).map (ldOf w f s).p).map pD := by rw [List.map_map, List.map_map]; rfl
  rw [st__law_told]; unfold b__law_told
  simp only [obx, osx, s_rai, fl_ex, if_ex, ec_ex, en_ex, cut_samex, v_hrd, hr_ok, hr_ex, v_isE, t_isE, isE_err, v_fld, fld_err, v_isB, t_isB, isb_b, v_rev, revR, n_isE, or_true, true_or, or_false, false_or, and_true, true_and, and_false, false_and, or_self, and_self, not_false_eq_true, not_true_eq_false, ite_self, lcD_rng, forS_rng, fuel_rng, rng2, rng3, rng4, rngI2, rngI3, rngI4, rng8, rngI8, all0, all1, all2, all3, Bool.and_true, Bool.true_and, Bool.and_false, Bool.false_and, Sto.put_put, ib, ist, ifl, iif, ien, icu, jI, jB, jT, andB, orB, andC, orC, notB, decide_eq_true_eq, cut_same, cut_pp, v_lcm, fuel_itm, lcD_itm, forS_itm, s_for, m_nil, m_cons, mc_some, mc_none, imc, lt_def, yes_def, dt_none, dt_some, w_nil, w_cons, own_nil, own_cons, z_nil, z_nil2, z_cons, e_nil, e_cons, lk0, lk1, lk2, lk3, lk4, ea_nil, ea_cons, ec_nx, ec_ct, ec_bk, ec_rt, iec, List.nil_append, List.cons_append, ob, os, oo, ol, q_cons, q_nil, fl_nx, fl_rt, if_yes, if_no, if_ok, en_rt, en_nx, s_set, s_setLc, s_ret, s_retN, s_dro, s_ife, s_par, s_par3, s_tgt, v_var, v_cst, v_glo, v_tup, v_lst, v_tupS, v_lstS, v_mls, v_bin, v_neg, v_not, t_not, v_cmp, t_cmp, v_chn, t_chn, v_isN, t_isN, v_and, v_or, t_and, t_or, v_ife, t_ife, v_idx, v_slc, v_cal, t_cal, v_blt, t_blt, v_isi, t_isi, t_var, v_lrg, v_rpr, v_frz, n_nil, n_cons, f_nil, f_cons, f_star, o_none, o_some, i_seq, i_rng1, i_rng2, i_zip, i_enu, var_0, var_s, cl_call, bAdd, bSub, cLt, cLe, cGt, cGe, cEq, cNe, cEqR, cNeR, nNeg, tBl, tIn, aAbs, aInt, aIntB, aMin, aMax, aLenT, aLenR, aTupT, aTupR, aLstR, aLstT, lq0, lq1, lq2, lq3, lq4, lq5, lq6, isiI, isiB, isiT, isiL, isiN, isiSt, isii, isib, isitt, idxT, idxR, at20, at21, at2m, at30, at31, at32, at3m, at40, at41, at42, at43, at4m, seqT, seqR, sqT, sqR, asT, asR, zipT, zipR, enuR, n_isN, n_isT, n_isI, n_isL, n_isS, d_bnd, g_nm, g_tp, g_nil, g_cons, Option.map_some, Option.map_none, Option.bind_some, if_true, if_false, Bool.false_eq_true, Bool.not_true, Bool.not_false, List.set_cons_zero, List.set_cons_succ, decide_true, decide_false, reduceCtorEq, e1, e2]
end
theorem p1010 {μ : Sto} : binD .Pow (.int 10) (.int 10) μ = some (.int 10000000000, μ) := by
  rw [bPow (by decide) (by decide) (lt_mid (show (10 : Int).natAbs < 2 ^ 5 by decide) (by decide))]; rfl
theorem c_leader (n p : Nat) (k : Int) (μ : Sto) (t : Pt) (hp : p < μ.sz) (h : V k t) (hk : k ≤ 100000000) : ∃ (w : W4) (f : Fr) (s : Fr × Fr) (t' : Pt), CN (n + 3) "_law_leader" [.obj p] (μ.put p (potL t)) = .ok (lD w f s) (μ.put p (potL t')) ∧ Lk f s ∧ V (k + 5) t' := by
  obtain ⟨x, t1, e1, x0, x1, v1⟩ := c_take (n + 1) p _ 13 μ t hp h (by omega) (by decide) (by decide)
  obtain ⟨d2, t2, e2, m2, v2⟩ := c_of n p [.int 1, .int 1, .int 3] _ μ t1 hp v1 (by omega) (by simp) (by simp)
  obtain ⟨lo, rfl, l0, l1⟩ : ∃ f : Int, d2 = .int f ∧ 0 < f ∧ f ≤ 3 := by
    simp only [List.mem_cons, List.not_mem_nil, or_false] at m2
    rcases m2 with rfl | rfl | rfl <;> exact ⟨_, rfl, by decide, by decide⟩
  obtain ⟨y, t3, e3, y0, y1, v3⟩ := c_take (n + 1) p _ 13 μ t2 hp v2 (by omega) (by decide) (by decide)
  obtain ⟨d4, t4, e4, m4, v4⟩ := c_of n p [fD (1, 1), fD (2, 1), fD (1, 2), fD (7, 3), fD (1000, 1), fD (10000000000, 1)] _ μ t3 hp v3 (by omega) (by simp) (by simp)
  obtain ⟨f, rfl, rf, pf, bf⟩ : ∃ f : Fr, d4 = fD f ∧ Red f ∧ 0 < f.1 ∧ BdF f 40 := by
    simp only [List.mem_cons, List.not_mem_nil, or_false] at m4
    rcases m4 with rfl | rfl | rfl | rfl | rfl | rfl <;> exact ⟨_, rfl, ⟨by decide, by decide +kernel⟩, by decide, ⟨by decide, by decide⟩⟩
  obtain ⟨d5, t5, e5, m5, v5⟩ := c_of n p [.str "stay", .str "turned", .str "mirrored", .str "back"] _ μ t4 hp v4 (by omega) (by simp) (by simp)
  obtain ⟨w, rfl⟩ : ∃ w : W4, d5 = .str (wS w) := by
    simp only [List.mem_cons, List.not_mem_nil, or_false] at m5
    rcases m5 with rfl | rfl | rfl | rfl
    · exact ⟨.st, rfl⟩
    · exact ⟨.tu, rfl⟩
    · exact ⟨.mi, rfl⟩
    · exact ⟨.ba, rfl⟩
  have r1 := frc_spec (t := x - 6) (b := lo) (by omega)
  have r2 := frc_spec (t := y - 6) (b := 1) (by omega)
  have g1 := fun ν => c_frac n (x - 6) lo ν (by omega) (Nat.lt_of_lt_of_le (show lo.natAbs < 2 ^ 30 by omega) (Nat.pow_le_pow_right (by omega) (by decide)))
  have g2 := fun ν => c_frac n (y - 6) 1 ν (by omega) (Nat.lt_of_lt_of_le (show (1 : Int).natAbs < 2 ^ 30 by decide) (Nat.pow_le_pow_right (by omega) (by decide)))
  refine ⟨w, f, (frc (x - 6) lo, frc (y - 6) 1), t5, ?_, ⟨rf, pf, ⟨r1.1, r2.1⟩, bf, frc_bd (by omega) (by omega) (by omega), frc_bd (by omega) (by omega) (by omega)⟩, v5.mono (by omega)⟩
  have fm : ∀ a b : Int, fD (a, b) = .tup [.int a, .int b] := fun _ _ => rfl
  simp only [fm] at e4
  rw [st__law_leader]; unfold b__law_leader lD
  simp (disch := first | assumption | rfl | exact lt_big (by (repeat' first | assumption | exact (show _ < 2 ^ 64 by decide) | apply mul_bd | apply add_bd | apply sub_bd | apply neg_bd)) (by decide) | exact lt_mid (by (repeat' first | assumption | exact (show _ < 2 ^ 64 by decide) | apply mul_bd | apply add_bd | apply sub_bd | apply neg_bd)) (by decide) | exact bigW (by (repeat' first | assumption | exact (show _ < 2 ^ 64 by decide) | apply mul_bd | apply add_bd | apply sub_bd | apply neg_bd)) (by decide)) only [obx, osx, s_rai, fl_ex, if_ex, ec_ex, en_ex, cut_samex, v_hrd, hr_ok, hr_ex, v_isE, t_isE, isE_err, v_fld, fld_err, v_isB, t_isB, isb_b, v_rev, revR, n_isE, or_true, true_or, or_false, false_or, and_true, true_and, and_false, false_and, or_self, and_self, not_false_eq_true, not_true_eq_false, ite_self, lcD_rng, forS_rng, fuel_rng, rng2, rng3, rng4, rngI2, rngI3, rngI4, rng8, rngI8, all0, all1, all2, all3, Bool.and_true, Bool.true_and, Bool.and_false, Bool.false_and, Sto.put_put, ib, ist, ifl, iif, ien, icu, jI, jB, jT, andB, orB, andC, orC, notB, decide_eq_true_eq, cut_same, cut_pp, v_lcm, fuel_itm, lcD_itm, forS_itm, s_for, m_nil, m_cons, mc_some, mc_none, imc, lt_def, yes_def, dt_none, dt_some, w_nil, w_cons, own_nil, own_cons, z_nil, z_nil2, z_cons, e_nil, e_cons, lk0, lk1, lk2, lk3, lk4, ea_nil, ea_cons, ec_nx, ec_ct, ec_bk, ec_rt, iec, List.nil_append, List.cons_append, ob, os, oo, ol, q_cons, q_nil, fl_nx, fl_rt, if_yes, if_no, if_ok, en_rt, en_nx, s_set, s_setLc, s_ret, s_retN, s_dro, s_ife, s_par, s_par3, s_tgt, v_var, v_cst, v_glo, v_tup, v_lst, v_tupS, v_lstS, v_mls, v_bin, v_neg, v_not, t_not, v_cmp, t_cmp, v_chn, t_chn, v_isN, t_isN, v_and, v_or, t_and, t_or, v_ife, t_ife, v_idx, v_slc, v_cal, t_cal, v_blt, t_blt, v_isi, t_isi, t_var, v_lrg, v_rpr, v_frz, n_nil, n_cons, f_nil, f_cons, f_star, o_none, o_some, i_seq, i_rng1, i_rng2, i_zip, i_enu, var_0, var_s, cl_call, bAdd, bSub, cLt, cLe, cGt, cGe, cEq, cNe, cEqR, cNeR, nNeg, tBl, tIn, aAbs, aInt, aIntB, aMin, aMax, aLenT, aLenR, aTupT, aTupR, aLstR, aLstT, lq0, lq1, lq2, lq3, lq4, lq5, lq6, isiI, isiB, isiT, isiL, isiN, isiSt, isii, isib, isitt, idxT, idxR, at20, at21, at2m, at30, at31, at32, at3m, at40, at41, at42, at43, at4m, seqT, seqR, sqT, sqR, asT, asR, zipT, zipR, enuR, n_isN, n_isT, n_isI, n_isL, n_isS, d_bnd, g_nm, g_tp, g_nil, g_cons, Option.map_some, Option.map_none, Option.bind_some, if_true, if_false, Bool.false_eq_true, Bool.not_true, Bool.not_false, List.set_cons_zero, List.set_cons_succ, decide_true, decide_false, reduceCtorEq, p1010, e1, e2, e3, e4, e5, g1, g2]
theorem c_small (n p : Nat) (k : Int) (μ : Sto) (t : Pt) (hp : p < μ.sz) (h : V k t) (hk : k ≤ 100000000) : ∃ (a : Fr × Fr) (t' : Pt), CN (n + 3) "_law_small_point" [.obj p] (μ.put p (potL t)) = .ok (pqD a) (μ.put p (potL t')) ∧ Sm a ∧ V (k + 3) t' := by
  obtain ⟨d1, t1, e1, m1, v1⟩ := c_of n p [.int 1, .int 1, .int 2, .int 5] _ μ t hp h (by omega) (by simp) (by simp)
  obtain ⟨lo, rfl, l0, l1⟩ : ∃ f : Int, d1 = .int f ∧ 0 < f ∧ f ≤ 5 := by
    simp only [List.mem_cons, List.not_mem_nil, or_false] at m1
    rcases m1 with rfl | rfl | rfl | rfl <;> exact ⟨_, rfl, by decide, by decide⟩
  obtain ⟨x, t2, e2, x0, x1, v2⟩ := c_take (n + 1) p _ 9 μ t1 hp v1 (by omega) (by decide) (by decide)
  obtain ⟨y, t3, e3, y0, y1, v3⟩ := c_take (n + 1) p _ 9 μ t2 hp v2 (by omega) (by decide) (by decide)
  have r1 := frc_spec (t := x - 4) (b := lo) (by omega)
  have r2 := frc_spec (t := y - 4) (b := 1) (by omega)
  have g1 := fun ν => c_frac n (x - 4) lo ν (by omega) (Nat.lt_of_lt_of_le (show lo.natAbs < 2 ^ 30 by omega) (Nat.pow_le_pow_right (by omega) (by decide)))
  have g2 := fun ν => c_frac n (y - 4) 1 ν (by omega) (Nat.lt_of_lt_of_le (show (1 : Int).natAbs < 2 ^ 30 by decide) (Nat.pow_le_pow_right (by omega) (by decide)))
  refine ⟨(frc (x - 4) lo, frc (y - 4) 1), t3, ?_, ⟨⟨r1.1, r2.1⟩, frc_bd (by omega) (by omega) (by omega), frc_bd (by omega) (by omega) (by omega)⟩, v3.mono (by omega)⟩
  rw [st__law_small_point]; unfold b__law_small_point
  simp (disch := first | assumption | rfl | exact lt_big (by (repeat' first | assumption | exact (show _ < 2 ^ 64 by decide) | apply mul_bd | apply add_bd | apply sub_bd | apply neg_bd)) (by decide) | exact lt_mid (by (repeat' first | assumption | exact (show _ < 2 ^ 64 by decide) | apply mul_bd | apply add_bd | apply sub_bd | apply neg_bd)) (by decide) | exact bigW (by (repeat' first | assumption | exact (show _ < 2 ^ 64 by decide) | apply mul_bd | apply add_bd | apply sub_bd | apply neg_bd)) (by decide)) only [obx, osx, s_rai, fl_ex, if_ex, ec_ex, en_ex, cut_samex, v_hrd, hr_ok, hr_ex, v_isE, t_isE, isE_err, v_fld, fld_err, v_isB, t_isB, isb_b, v_rev, revR, n_isE, or_true, true_or, or_false, false_or, and_true, true_and, and_false, false_and, or_self, and_self, not_false_eq_true, not_true_eq_false, ite_self, lcD_rng, forS_rng, fuel_rng, rng2, rng3, rng4, rngI2, rngI3, rngI4, rng8, rngI8, all0, all1, all2, all3, Bool.and_true, Bool.true_and, Bool.and_false, Bool.false_and, Sto.put_put, ib, ist, ifl, iif, ien, icu, jI, jB, jT, andB, orB, andC, orC, notB, decide_eq_true_eq, cut_same, cut_pp, v_lcm, fuel_itm, lcD_itm, forS_itm, s_for, m_nil, m_cons, mc_some, mc_none, imc, lt_def, yes_def, dt_none, dt_some, w_nil, w_cons, own_nil, own_cons, z_nil, z_nil2, z_cons, e_nil, e_cons, lk0, lk1, lk2, lk3, lk4, ea_nil, ea_cons, ec_nx, ec_ct, ec_bk, ec_rt, iec, List.nil_append, List.cons_append, ob, os, oo, ol, q_cons, q_nil, fl_nx, fl_rt, if_yes, if_no, if_ok, en_rt, en_nx, s_set, s_setLc, s_ret, s_retN, s_dro, s_ife, s_par, s_par3, s_tgt, v_var, v_cst, v_glo, v_tup, v_lst, v_tupS, v_lstS, v_mls, v_bin, v_neg, v_not, t_not, v_cmp, t_cmp, v_chn, t_chn, v_isN, t_isN, v_and, v_or, t_and, t_or, v_ife, t_ife, v_idx, v_slc, v_cal, t_cal, v_blt, t_blt, v_isi, t_isi, t_var, v_lrg, v_rpr, v_frz, n_nil, n_cons, f_nil, f_cons, f_star, o_none, o_some, i_seq, i_rng1, i_rng2, i_zip, i_enu, var_0, var_s, cl_call, bAdd, bSub, cLt, cLe, cGt, cGe, cEq, cNe, cEqR, cNeR, nNeg, tBl, tIn, aAbs, aInt, aIntB, aMin, aMax, aLenT, aLenR, aTupT, aTupR, aLstR, aLstT, lq0, lq1, lq2, lq3, lq4, lq5, lq6, isiI, isiB, isiT, isiL, isiN, isiSt, isii, isib, isitt, idxT, idxR, at20, at21, at2m, at30, at31, at32, at3m, at40, at41, at42, at43, at4m, seqT, seqR, sqT, sqR, asT, asR, zipT, zipR, enuR, n_isN, n_isT, n_isI, n_isL, n_isS, d_bnd, g_nm, g_tp, g_nil, g_cons, Option.map_some, Option.map_none, Option.bind_some, if_true, if_false, Bool.false_eq_true, Bool.not_true, Bool.not_false, List.set_cons_zero, List.set_cons_succ, decide_true, decide_false, reduceCtorEq, e1, e2, e3, g1, g2]
/-! ### inside, heard -/
def insD (l : List P3) (S : P3) : D := if anyP l S = true then .tup [.bl true, .non] else .tup [.bl false, .bl (oddP l S)]
theorem c_ins (n : Nat) (l : List P3) (S : P3) (μ : Sto) (h : Ring l 200000) (nS : NmP S) (bS : BdP S 200000) : CN (n + 6) "_law_inside" [.rol (l.map pD), pD S] μ = .ok (insD l S) μ := by
  have e := c_inside n l S μ h nS bS
  have hO : decide (("OnLine" : Str) ∈ (["FenceError", "BadPoint", "BadShare", "Same", "BadRing", "OnLine"] : List Str)) = true := by decide +kernel
  rw [st__law_inside]; unfold b__law_inside insD
  by_cases z : anyP l S = true
  · rw [if_pos z] at e ⊢
    simp (disch := assumption) only [obx, osx, s_rai, fl_ex, if_ex, ec_ex, en_ex, cut_samex, v_hrd, hr_ok, hr_ex, v_isE, t_isE, isE_err, v_fld, fld_err, v_isB, t_isB, isb_b, v_rev, revR, n_isE, or_true, true_or, or_false, false_or, and_true, true_and, and_false, false_and, or_self, and_self, not_false_eq_true, not_true_eq_false, ite_self, lcD_rng, forS_rng, fuel_rng, rng2, rng3, rng4, rngI2, rngI3, rngI4, rng8, rngI8, all0, all1, all2, all3, Bool.and_true, Bool.true_and, Bool.and_false, Bool.false_and, Sto.put_put, ib, ist, ifl, iif, ien, icu, jI, jB, jT, andB, orB, andC, orC, notB, decide_eq_true_eq, cut_same, cut_pp, v_lcm, fuel_itm, lcD_itm, forS_itm, s_for, m_nil, m_cons, mc_some, mc_none, imc, lt_def, yes_def, dt_none, dt_some, w_nil, w_cons, own_nil, own_cons, z_nil, z_nil2, z_cons, e_nil, e_cons, lk0, lk1, lk2, lk3, lk4, ea_nil, ea_cons, ec_nx, ec_ct, ec_bk, ec_rt, iec, List.nil_append, List.cons_append, ob, os, oo, ol, q_cons, q_nil, fl_nx, fl_rt, if_yes, if_no, if_ok, en_rt, en_nx, s_set, s_setLc, s_ret, s_retN, s_dro, s_ife, s_par, s_par3, s_tgt, v_var, v_cst, v_glo, v_tup, v_lst, v_tupS, v_lstS, v_mls, v_bin, v_neg, v_not, t_not, v_cmp, t_cmp, v_chn, t_chn, v_isN, t_isN, v_and, v_or, t_and, t_or, v_ife, t_ife, v_idx, v_slc, v_cal, t_cal, v_blt, t_blt, v_isi, t_isi, t_var, v_lrg, v_rpr, v_frz, n_nil, n_cons, f_nil, f_cons, f_star, o_none, o_some, i_seq, i_rng1, i_rng2, i_zip, i_enu, var_0, var_s, cl_call, bAdd, bSub, cLt, cLe, cGt, cGe, cEq, cNe, cEqR, cNeR, nNeg, tBl, tIn, aAbs, aInt, aIntB, aMin, aMax, aLenT, aLenR, aTupT, aTupR, aLstR, aLstT, lq0, lq1, lq2, lq3, lq4, lq5, lq6, isiI, isiB, isiT, isiL, isiN, isiSt, isii, isib, isitt, idxT, idxR, at20, at21, at2m, at30, at31, at32, at3m, at40, at41, at42, at43, at4m, seqT, seqR, sqT, sqR, asT, asR, zipT, zipR, enuR, n_isN, n_isT, n_isI, n_isL, n_isS, d_bnd, g_nm, g_tp, g_nil, g_cons, Option.map_some, Option.map_none, Option.bind_some, if_true, if_false, Bool.false_eq_true, Bool.not_true, Bool.not_false, List.set_cons_zero, List.set_cons_succ, decide_true, decide_false, reduceCtorEq, e, Bool.false_or, eq_self]
  · rw [if_neg z] at e ⊢
    simp (disch := assumption) only [obx, osx, s_rai, fl_ex, if_ex, ec_ex, en_ex, cut_samex, v_hrd, hr_ok, hr_ex, v_isE, t_isE, isE_err, v_fld, fld_err, v_isB, t_isB, isb_b, v_rev, revR, n_isE, or_true, true_or, or_false, false_or, and_true, true_and, and_false, false_and, or_self, and_self, not_false_eq_true, not_true_eq_false, ite_self, lcD_rng, forS_rng, fuel_rng, rng2, rng3, rng4, rngI2, rngI3, rngI4, rng8, rngI8, all0, all1, all2, all3, Bool.and_true, Bool.true_and, Bool.and_false, Bool.false_and, Sto.put_put, ib, ist, ifl, iif, ien, icu, jI, jB, jT, andB, orB, andC, orC, notB, decide_eq_true_eq, cut_same, cut_pp, v_lcm, fuel_itm, lcD_itm, forS_itm, s_for, m_nil, m_cons, mc_some, mc_none, imc, lt_def, yes_def, dt_none, dt_some, w_nil, w_cons, own_nil, own_cons, z_nil, z_nil2, z_cons, e_nil, e_cons, lk0, lk1, lk2, lk3, lk4, ea_nil, ea_cons, ec_nx, ec_ct, ec_bk, ec_rt, iec, List.nil_append, List.cons_append, ob, os, oo, ol, q_cons, q_nil, fl_nx, fl_rt, if_yes, if_no, if_ok, en_rt, en_nx, s_set, s_setLc, s_ret, s_retN, s_dro, s_ife, s_par, s_par3, s_tgt, v_var, v_cst, v_glo, v_tup, v_lst, v_tupS, v_lstS, v_mls, v_bin, v_neg, v_not, t_not, v_cmp, t_cmp, v_chn, t_chn, v_isN, t_isN, v_and, v_or, t_and, t_or, v_ife, t_ife, v_idx, v_slc, v_cal, t_cal, v_blt, t_blt, v_isi, t_isi, t_var, v_lrg, v_rpr, v_frz, n_nil, n_cons, f_nil, f_cons, f_star, o_none, o_some, i_seq, i_rng1, i_rng2, i_zip, i_enu, var_0, var_s, cl_call, bAdd, bSub, cLt, cLe, cGt, cGe, cEq, cNe, cEqR, cNeR, nNeg, tBl, tIn, aAbs, aInt, aIntB, aMin, aMax, aLenT, aLenR, aTupT, aTupR, aLstR, aLstT, lq0, lq1, lq2, lq3, lq4, lq5, lq6, isiI, isiB, isiT, isiL, isiN, isiSt, isii, isib, isitt, idxT, idxR, at20, at21, at2m, at30, at31, at32, at3m, at40, at41, at42, at43, at4m, seqT, seqR, sqT, sqR, asT, asR, zipT, zipR, enuR, n_isN, n_isT, n_isI, n_isL, n_isS, d_bnd, g_nm, g_tp, g_nil, g_cons, Option.map_some, Option.map_none, Option.bind_some, if_true, if_false, Bool.false_eq_true, Bool.not_true, Bool.not_false, List.set_cons_zero, List.set_cons_succ, decide_true, decide_false, reduceCtorEq, e]
theorem eq22 {μ : Sto} {p q : Fr × Fr} : eqD μ (pqD p) (pqD q) = some (decide (p = q)) := by
  obtain ⟨⟨a, b⟩, c, d⟩ := p
  obtain ⟨⟨x, y⟩, z, w⟩ := q
  have e1 : toPy μ FU (pqD ((a, b), (c, d))) = some (.tuple [.tuple [.int a, .int b], .tuple [.int c, .int d]]) := rfl
  have e2 : toPy μ FU (pqD ((x, y), (z, w))) = some (.tuple [.tuple [.int x, .int y], .tuple [.int z, .int w]]) := rfl
  have s : ∀ a b c d : Int, SeqAt.shaped (.tuple [.tuple [.int a, .int b], .tuple [.int c, .int d]]) = true := fun a b c d => rfl
  unfold eqD
  simp only [e1, e2, s]
  simp [PyData.eqv, PyData.eqvAll]
  by_cases h1 : a = x <;> by_cases h2 : b = y <;> by_cases h3 : c = z <;> by_cases h4 : d = w <;> simp [h1, h2, h3, h4]
theorem cNeQ {μ : Sto} {p q : Fr × Fr} : cmpD μ .NotEq (pqD p) (pqD q) = some (!decide (p = q)) := by
  have e : cmpD μ .NotEq (pqD p) (pqD q) = (eqD μ (pqD p) (pqD q)).map not := by unfold cmpD; rfl
  rw [e, eq22]; rfl
theorem cEqQ {μ : Sto} {p q : Fr × Fr} : cmpD μ .Eq (pqD p) (pqD q) = some (decide (p = q)) := by
  have e : cmpD μ .Eq (pqD p) (pqD q) = eqD μ (pqD p) (pqD q) := by unfold cmpD; rfl
  rw [e, eq22]
end Rf


set_option Elab.async false
set_option linter.all false
set_option maxRecDepth 100000
set_option maxHeartbeats 4000000
/-! k05: the law -/
namespace Rf
open PySem PySem.Spec PyProof.Rows L2
def ptOf : D → Option P3
  | .tup [_, .tup [.int a, .int b, .int c]] => some (a, b, c)
  | _ => none
theorem ov_pt {A B C E P : P3} {e : Nat} (hA : BdP A e) (hB : BdP B e) (hC : BdP C e) (hE : BdP E e) (h : ptOf (ovP A B C E) = some P) : BdP P e := by
  have bL : BdP (lowP A B) e := pick (Z := fun P => BdP P e) hB hA
  have bF : BdP (lowP C E) e := pick (Z := fun P => BdP P e) hE hC
  have bM : BdP (maxP (lowP A B) (lowP C E)) e := pick (Z := fun P => BdP P e) bF bL
  unfold ovP at h
  split at h
  · have z : some (maxP (lowP A B) (lowP C E)) = some P := h
    rw [← Option.some.inj z]; exact bM
  · split at h <;> cases h
theorem cross_pt {A B C E P : P3} {e : Nat} (nA : NmP A) (nB : NmP B) (hA : BdP A e) (hB : BdP B e) (hC : BdP C e) (hE : BdP E e) (h : ptOf (crossP A B C E) = some P) : BdP P (4 * e + 3) := by
  unfold crossP at h
  by_cases h0 : det C E A = 0 ∧ det C E B = 0
  · rw [if_pos h0] at h
    exact (ov_pt hA hB hC hE h).mono (by omega)
  rw [if_neg h0] at h
  by_cases h1 : 0 < det C E A * det C E B ∨ 0 < det A B C * det A B E
  · rw [if_pos h1] at h; cases h
  rw [if_neg h1] at h
  have tt : ∀ {X : P3}, ptOf (tTouch X) = some P → BdP X e → BdP P (4 * e + 3) := fun {X} hx b => by
    have z : some X = some P := hx
    rw [← Option.some.inj z]; exact b.mono (by omega)
  split at h
  · exact tt h hA
  · rename_i z1
    split at h
    · exact tt h hB
    · split at h
      · exact tt h hC
      · split at h
        · exact tt h hE
        · have nz : (meetX A B C E).2.2 ≠ 0 := meetX_ne nA nB (fun z => h1 (.inl z)) (.inl z1)
          have bx := lin_bd (lin_bd hA hB) (lin_bd hC hE)
          obtain ⟨_, _, _, k1, k2, k3⟩ := nrm_spec (x := (meetX A B C E).1) (y := (meetX A B C E).2.1) nz
          have z : some (nrmP (meetX A B C E)) = some P := h
          rw [← Option.some.inj z]
          exact ⟨le_bd (Nat.lt_of_le_of_lt k1 bx.1) (by omega), le_bd (Nat.lt_of_le_of_lt k2 bx.2.1) (by omega), le_bd (Nat.lt_of_le_of_lt k3 bx.2.2) (by omega)⟩
theorem at10 (x : D) : atI [x] 0 = some x := rfl
theorem stpE {c : Cl} {s : S} {r : List S} {env env' : En} {μ μ' : Sto} {X : Out Fl} (h : exS c s env μ = .ok (.nx env') μ') (k : exSs c r env' μ' = X) : exSs c (s :: r) env μ = X := by rw [q_cons, h, fl_nx]; exact k
theorem any3 {μ : Sto} {a b c : Bool} : bltD μ .any [.rol [.bl a, .bl b, .bl c]] = some (.bl (a || (b || (c || false))), μ) := rfl
theorem any4 {μ : Sto} {a b c d : Bool} : bltD μ .any [.rol [.bl a, .bl b, .bl c, .bl d]] = some (.bl (a || (b || (c || (d || false)))), μ) := rfl
theorem insD_led {w : W4} {f : Fr} {s : Fr × Fr} (h : Lk f s) {l : List P3} {S : P3} (nS : NmP S) (hl : ∀ P ∈ l, NmP P) : insD (l.map (ldOf w f s).p) ((ldOf w f s).p S) = insD l S := by
  unfold insD
  rw [led_any h.ok nS hl]
  by_cases z : anyP l S = true
  · rw [if_pos z, if_pos z]
  · rw [if_neg z, if_neg z, led_odd h.ok nS hl (by cases y : anyP l S; rfl; exact absurd y z)]
theorem insD_shw (l : List P3) (S : P3) : (∃ ds, insD l S = .tup ds) ∧ Shw (insD l S) := by
  unfold insD
  by_cases z : anyP l S = true
  · rw [if_pos z]
    exact ⟨⟨_, rfl⟩, (pg_tup (pgs_cons (pg_bl true) (pgs_cons pg_non (pgs_nil 1)))).shw (by decide) (by decide)⟩
  · rw [if_neg z]
    exact ⟨⟨_, rfl⟩, (pg_tup (pgs_cons (pg_bl false) (pgs_cons (pg_bl _) (pgs_nil 1)))).shw (by decide) (by decide)⟩
theorem tail3 (n p : Nat) (kk : Int) (μ : Sto) (t : Pt) (hp : p < μ.sz) (hv : V kk t) (hk : kk ≤ 1000) (w : W4) (f : Fr) (s : Fr × Fr) (h : Lk f s) (x y z : Fr × Fr) (sx : Sm x) (sy : Sm y) (sz : Sm z) (e1 e2 e4 e5 e6 e8 e9 e10 e11 e12 e13 e14 : Option D) :
    ∃ t' : Pt, exSs ⟨WF, CN (n + 7)⟩ (b__law_right.drop 8) [some (.obj p), e1, e2, some (.rol [pqD x, pqD y, pqD z]), e4, e5, e6, some (lD w f s), e8, e9, e10, e11, e12, e13, e14] (μ.put p (potL t)) = .ok (.rt (.bl true)) (μ.put p (potL t')) := by
  have lens : ∀ {ν : Sto}, bltD ν .len [.rol [pqD x, pqD y, pqD z]] = some (.int 3, ν) := rfl
  have h33 : ¬ ((3 : Int) < 3) := by decide
  unfold b__law_right
  simp only [List.drop_succ_cons, List.drop_zero]
  by_cases hc : (decide (x = z) || (decide (y = x) || (decide (z = y) || false))) = true
  · refine ⟨t, ?_⟩
    rw [q_cons]
    simp only [obx, osx, s_rai, fl_ex, if_ex, ec_ex, en_ex, cut_samex, v_hrd, hr_ok, hr_ex, v_isE, t_isE, isE_err, v_fld, fld_err, v_isB, t_isB, isb_b, v_rev, revR, n_isE, or_true, true_or, or_false, false_or, and_true, true_and, and_false, false_and, or_self, and_self, not_false_eq_true, not_true_eq_false, ite_self, lcD_rng, forS_rng, fuel_rng, rng2, rng3, rng4, rngI2, rngI3, rngI4, rng8, rngI8, all0, all1, all2, all3, Bool.and_true, Bool.true_and, Bool.and_false, Bool.false_and, Sto.put_put, ib, ist, ifl, iif, ien, icu, jI, jB, jT, andB, orB, andC, orC, notB, decide_eq_true_eq, cut_same, cut_pp, v_lcm, fuel_itm, lcD_itm, forS_itm, s_for, m_nil, m_cons, mc_some, mc_none, imc, lt_def, yes_def, dt_none, dt_some, w_nil, w_cons, own_nil, own_cons, z_nil, z_nil2, z_cons, e_nil, e_cons, lk0, lk1, lk2, lk3, lk4, ea_nil, ea_cons, ec_nx, ec_ct, ec_bk, ec_rt, iec, List.nil_append, List.cons_append, ob, os, oo, ol, q_cons, q_nil, fl_nx, fl_rt, if_yes, if_no, if_ok, en_rt, en_nx, s_set, s_setLc, s_ret, s_retN, s_dro, s_ife, s_par, s_par3, s_tgt, v_var, v_cst, v_glo, v_tup, v_lst, v_tupS, v_lstS, v_mls, v_bin, v_neg, v_not, t_not, v_cmp, t_cmp, v_chn, t_chn, v_isN, t_isN, v_and, v_or, t_and, t_or, v_ife, t_ife, v_idx, v_slc, v_cal, t_cal, v_blt, t_blt, v_isi, t_isi, t_var, v_lrg, v_rpr, v_frz, n_nil, n_cons, f_nil, f_cons, f_star, o_none, o_some, i_seq, i_rng1, i_rng2, i_zip, i_enu, var_0, var_s, cl_call, bAdd, bSub, cLt, cLe, cGt, cGe, cEq, cNe, cEqR, cNeR, nNeg, tBl, tIn, aAbs, aInt, aIntB, aMin, aMax, aLenT, aLenR, aTupT, aTupR, aLstR, aLstT, lq0, lq1, lq2, lq3, lq4, lq5, lq6, isiI, isiB, isiT, isiL, isiN, isiSt, isii, isib, isitt, idxT, idxR, at20, at21, at2m, at30, at31, at32, at3m, at40, at41, at42, at43, at4m, seqT, seqR, sqT, sqR, asT, asR, zipT, zipR, enuR, n_isN, n_isT, n_isI, n_isL, n_isS, d_bnd, g_nm, g_tp, g_nil, g_cons, Option.map_some, Option.map_none, Option.bind_some, if_true, if_false, Bool.false_eq_true, Bool.not_true, Bool.not_false, List.set_cons_zero, List.set_cons_succ, decide_true, decide_false, reduceCtorEq, lens, h33, rngD1, cEqQ, any3, hc, Int.reduceSub]
  · have hc : (decide (x = z) || (decide (y = x) || (decide (z = y) || false))) = false := by cases q : (decide (x = z) || (decide (y = x) || (decide (z = y) || false))); rfl; exact absurd q hc
    have hne := hc
    simp only [Bool.or_eq_false_iff, decide_eq_false_iff_not, and_true] at hne
    obtain ⟨n0, n1, n2⟩ := hne
    obtain ⟨a, t1, es, sa, v1⟩ := c_small (n + 4) p kk μ t hp hv (by omega)
    refine ⟨t1, ?_⟩
    have hr : Ring [toldP x, toldP y, toldP z] 12 := by
      refine ⟨by simp, by simp, ?_, ?_, ?_⟩
      · intro P hP
        simp only [List.mem_cons, List.not_mem_nil, or_false] at hP
        rcases hP with rfl | rfl | rfl
        · exact sx.nm
        · exact sy.nm
        · exact sz.nm
      · intro P hP
        simp only [List.mem_cons, List.not_mem_nil, or_false] at hP
        rcases hP with rfl | rfl | rfl
        · exact sx.bd
        · exact sy.bd
        · exact sz.bd
      · intro q hq
        simp only [prs, cpr, List.mem_cons, List.not_mem_nil, or_false] at hq
        rcases hq with rfl | rfl | rfl
        · exact fun z => n1 (told_inj sy.r sx.r z.symm)
        · exact fun z => n2 (told_inj sz.r sy.r z.symm)
        · exact fun z => n0 (told_inj sx.r sz.r z.symm)
    have nm : ∀ P ∈ [toldP x, toldP y, toldP z], NmP P := hr.nm
    obtain ⟨h1, h2, h3, h4⟩ := h.bd (w := w)
    have rl := ring_led (k := 200000) h.ok hr h1 h2 h3 h4 (by decide)
    have i1 := c_ins (n + 1) [toldP x, toldP y, toldP z] (toldP a) (μ.put p (potL t1)) (hr.mono (by decide)) sa.nm (sa.bd.mono (by decide))
    have i2 := c_ins (n + 1) _ ((ldOf w f s).p (toldP a)) (μ.put p (potL t1)) rl (ld_nm h.ok sa.nm) ((h.bp sa.nm sa.bd).mono (by decide))
    rw [insD_led h sa.nm nm] at i2
    simp only [List.map_cons, List.map_nil] at i1 i2
    have tx := c_told (n + 5) x (μ.put p (potL t1)) sx.r (sx.b1.mono (by decide)) (sx.b2.mono (by decide))
    have ty := c_told (n + 5) y (μ.put p (potL t1)) sy.r (sy.b1.mono (by decide)) (sy.b2.mono (by decide))
    have tz := c_told (n + 5) z (μ.put p (potL t1)) sz.r (sz.b1.mono (by decide)) (sz.b2.mono (by decide))
    have ta := c_told (n + 5) a (μ.put p (potL t1)) sa.r (sa.b1.mono (by decide)) (sa.b2.mono (by decide))
    have g1 := c_tolds (w := w) (n + 2) [x, y, z] (μ.put p (potL t1)) h (by
      intro q hq
      simp only [List.mem_cons, List.not_mem_nil, or_false] at hq
      rcases hq with rfl | rfl | rfl <;> assumption) (by simp)
    have g2 := c_tolds (w := w) (n + 2) [a] (μ.put p (potL t1)) h (by
      intro q hq
      simp only [List.mem_cons, List.not_mem_nil, or_false] at hq
      rw [hq]; exact sa) (by simp)
    simp only [List.map_cons, List.map_nil] at g1 g2
    obtain ⟨⟨ds, ed⟩, pp, qq⟩ := insD_shw [toldP x, toldP y, toldP z] (toldP a)
    rw [ed] at i1 i2 qq
    refine stpE (by simp only [obx, osx, s_rai, fl_ex, if_ex, ec_ex, en_ex, cut_samex, v_hrd, hr_ok, hr_ex, v_isE, t_isE, isE_err, v_fld, fld_err, v_isB, t_isB, isb_b, v_rev, revR, n_isE, or_true, true_or, or_false, false_or, and_true, true_and, and_false, false_and, or_self, and_self, not_false_eq_true, not_true_eq_false, ite_self, lcD_rng, forS_rng, fuel_rng, rng2, rng3, rng4, rngI2, rngI3, rngI4, rng8, rngI8, all0, all1, all2, all3, Bool.and_true, Bool.true_and, Bool.and_false, Bool.false_and, Sto.put_put, ib, ist, ifl, iif, ien, icu, jI, jB, jT, andB, orB, andC, orC, notB, decide_eq_true_eq, cut_same, cut_pp, v_lcm, fuel_itm, lcD_itm, forS_itm, s_for, m_nil, m_cons, mc_some, mc_none, imc, lt_def, yes_def, dt_none, dt_some, w_nil, w_cons, own_nil, own_cons, z_nil, z_nil2, z_cons, e_nil, e_cons, lk0, lk1, lk2, lk3, lk4, ea_nil, ea_cons, ec_nx, ec_ct, ec_bk, ec_rt, iec, List.nil_append, List.cons_append, ob, os, oo, ol, q_cons, q_nil, fl_nx, fl_rt, if_yes, if_no, if_ok, en_rt, en_nx, s_set, s_setLc, s_ret, s_retN, s_dro, s_ife, s_par, s_par3, s_tgt, v_var, v_cst, v_glo, v_tup, v_lst, v_tupS, v_lstS, v_mls, v_bin, v_neg, v_not, t_not, v_cmp, t_cmp, v_chn, t_chn, v_isN, t_isN, v_and, v_or, t_and, t_or, v_ife, t_ife, v_idx, v_slc, v_cal, t_cal, v_blt, t_blt, v_isi, t_isi, t_var, v_lrg, v_rpr, v_frz, n_nil, n_cons, f_nil, f_cons, f_star, o_none, o_some, i_seq, i_rng1, i_rng2, i_zip, i_enu, var_0, var_s, cl_call, bAdd, bSub, cLt, cLe, cGt, cGe, cEq, cNe, cEqR, cNeR, nNeg, tBl, tIn, aAbs, aInt, aIntB, aMin, aMax, aLenT, aLenR, aTupT, aTupR, aLstR, aLstT, lq0, lq1, lq2, lq3, lq4, lq5, lq6, isiI, isiB, isiT, isiL, isiN, isiSt, isii, isib, isitt, idxT, idxR, at20, at21, at2m, at30, at31, at32, at3m, at40, at41, at42, at43, at4m, seqT, seqR, sqT, sqR, asT, asR, zipT, zipR, enuR, n_isN, n_isT, n_isI, n_isL, n_isS, d_bnd, g_nm, g_tp, g_nil, g_cons, Option.map_some, Option.map_none, Option.bind_some, if_true, if_false, Bool.false_eq_true, Bool.not_true, Bool.not_false, List.set_cons_zero, List.set_cons_succ, decide_true, decide_false, reduceCtorEq, lens, h33, rngD1, cEqQ, any3, hc, Int.reduceSub] <;> rfl) ?_
    refine stpE (by simp only [obx, osx, s_rai, fl_ex, if_ex, ec_ex, en_ex, cut_samex, v_hrd, hr_ok, hr_ex, v_isE, t_isE, isE_err, v_fld, fld_err, v_isB, t_isB, isb_b, v_rev, revR, n_isE, or_true, true_or, or_false, false_or, and_true, true_and, and_false, false_and, or_self, and_self, not_false_eq_true, not_true_eq_false, ite_self, lcD_rng, forS_rng, fuel_rng, rng2, rng3, rng4, rngI2, rngI3, rngI4, rng8, rngI8, all0, all1, all2, all3, Bool.and_true, Bool.true_and, Bool.and_false, Bool.false_and, Sto.put_put, ib, ist, ifl, iif, ien, icu, jI, jB, jT, andB, orB, andC, orC, notB, decide_eq_true_eq, cut_same, cut_pp, v_lcm, fuel_itm, lcD_itm, forS_itm, s_for, m_nil, m_cons, mc_some, mc_none, imc, lt_def, yes_def, dt_none, dt_some, w_nil, w_cons, own_nil, own_cons, z_nil, z_nil2, z_cons, e_nil, e_cons, lk0, lk1, lk2, lk3, lk4, ea_nil, ea_cons, ec_nx, ec_ct, ec_bk, ec_rt, iec, List.nil_append, List.cons_append, ob, os, oo, ol, q_cons, q_nil, fl_nx, fl_rt, if_yes, if_no, if_ok, en_rt, en_nx, s_set, s_setLc, s_ret, s_retN, s_dro, s_ife, s_par, s_par3, s_tgt, v_var, v_cst, v_glo, v_tup, v_lst, v_tupS, v_lstS, v_mls, v_bin, v_neg, v_not, t_not, v_cmp, t_cmp, v_chn, t_chn, v_isN, t_isN, v_and, v_or, t_and, t_or, v_ife, t_ife, v_idx, v_slc, v_cal, t_cal, v_blt, t_blt, v_isi, t_isi, t_var, v_lrg, v_rpr, v_frz, n_nil, n_cons, f_nil, f_cons, f_star, o_none, o_some, i_seq, i_rng1, i_rng2, i_zip, i_enu, var_0, var_s, cl_call, bAdd, bSub, cLt, cLe, cGt, cGe, cEq, cNe, cEqR, cNeR, nNeg, tBl, tIn, aAbs, aInt, aIntB, aMin, aMax, aLenT, aLenR, aTupT, aTupR, aLstR, aLstT, lq0, lq1, lq2, lq3, lq4, lq5, lq6, isiI, isiB, isiT, isiL, isiN, isiSt, isii, isib, isitt, idxT, idxR, at20, at21, at2m, at30, at31, at32, at3m, at40, at41, at42, at43, at4m, seqT, seqR, sqT, sqR, asT, asR, zipT, zipR, enuR, n_isN, n_isT, n_isI, n_isL, n_isS, d_bnd, g_nm, g_tp, g_nil, g_cons, Option.map_some, Option.map_none, Option.bind_some, if_true, if_false, Bool.false_eq_true, Bool.not_true, Bool.not_false, List.set_cons_zero, List.set_cons_succ, decide_true, decide_false, reduceCtorEq, es] <;> rfl) ?_
    refine stpE (by simp only [obx, osx, s_rai, fl_ex, if_ex, ec_ex, en_ex, cut_samex, v_hrd, hr_ok, hr_ex, v_isE, t_isE, isE_err, v_fld, fld_err, v_isB, t_isB, isb_b, v_rev, revR, n_isE, or_true, true_or, or_false, false_or, and_true, true_and, and_false, false_and, or_self, and_self, not_false_eq_true, not_true_eq_false, ite_self, lcD_rng, forS_rng, fuel_rng, rng2, rng3, rng4, rngI2, rngI3, rngI4, rng8, rngI8, all0, all1, all2, all3, Bool.and_true, Bool.true_and, Bool.and_false, Bool.false_and, Sto.put_put, ib, ist, ifl, iif, ien, icu, jI, jB, jT, andB, orB, andC, orC, notB, decide_eq_true_eq, cut_same, cut_pp, v_lcm, fuel_itm, lcD_itm, forS_itm, s_for, m_nil, m_cons, mc_some, mc_none, imc, lt_def, yes_def, dt_none, dt_some, w_nil, w_cons, own_nil, own_cons, z_nil, z_nil2, z_cons, e_nil, e_cons, lk0, lk1, lk2, lk3, lk4, ea_nil, ea_cons, ec_nx, ec_ct, ec_bk, ec_rt, iec, List.nil_append, List.cons_append, ob, os, oo, ol, q_cons, q_nil, fl_nx, fl_rt, if_yes, if_no, if_ok, en_rt, en_nx, s_set, s_setLc, s_ret, s_retN, s_dro, s_ife, s_par, s_par3, s_tgt, v_var, v_cst, v_glo, v_tup, v_lst, v_tupS, v_lstS, v_mls, v_bin, v_neg, v_not, t_not, v_cmp, t_cmp, v_chn, t_chn, v_isN, t_isN, v_and, v_or, t_and, t_or, v_ife, t_ife, v_idx, v_slc, v_cal, t_cal, v_blt, t_blt, v_isi, t_isi, t_var, v_lrg, v_rpr, v_frz, n_nil, n_cons, f_nil, f_cons, f_star, o_none, o_some, i_seq, i_rng1, i_rng2, i_zip, i_enu, var_0, var_s, cl_call, bAdd, bSub, cLt, cLe, cGt, cGe, cEq, cNe, cEqR, cNeR, nNeg, tBl, tIn, aAbs, aInt, aIntB, aMin, aMax, aLenT, aLenR, aTupT, aTupR, aLstR, aLstT, lq0, lq1, lq2, lq3, lq4, lq5, lq6, isiI, isiB, isiT, isiL, isiN, isiSt, isii, isib, isitt, idxT, idxR, at20, at21, at2m, at30, at31, at32, at3m, at40, at41, at42, at43, at4m, seqT, seqR, sqT, sqR, asT, asR, zipT, zipR, enuR, n_isN, n_isT, n_isI, n_isL, n_isS, d_bnd, g_nm, g_tp, g_nil, g_cons, Option.map_some, Option.map_none, Option.bind_some, if_true, if_false, Bool.false_eq_true, Bool.not_true, Bool.not_false, List.set_cons_zero, List.set_cons_succ, decide_true, decide_false, reduceCtorEq, tx, ty, tz, ta, i1] <;> rfl) ?_
    refine stpE (by simp only [obx, osx, s_rai, fl_ex, if_ex, ec_ex, en_ex, cut_samex, v_hrd, hr_ok, hr_ex, v_isE, t_isE, isE_err, v_fld, fld_err, v_isB, t_isB, isb_b, v_rev, revR, n_isE, or_true, true_or, or_false, false_or, and_true, true_and, and_false, false_and, or_self, and_self, not_false_eq_true, not_true_eq_false, ite_self, lcD_rng, forS_rng, fuel_rng, rng2, rng3, rng4, rngI2, rngI3, rngI4, rng8, rngI8, all0, all1, all2, all3, Bool.and_true, Bool.true_and, Bool.and_false, Bool.false_and, Sto.put_put, ib, ist, ifl, iif, ien, icu, jI, jB, jT, andB, orB, andC, orC, notB, decide_eq_true_eq, cut_same, cut_pp, v_lcm, fuel_itm, lcD_itm, forS_itm, s_for, m_nil, m_cons, mc_some, mc_none, imc, lt_def, yes_def, dt_none, dt_some, w_nil, w_cons, own_nil, own_cons, z_nil, z_nil2, z_cons, e_nil, e_cons, lk0, lk1, lk2, lk3, lk4, ea_nil, ea_cons, ec_nx, ec_ct, ec_bk, ec_rt, iec, List.nil_append, List.cons_append, ob, os, oo, ol, q_cons, q_nil, fl_nx, fl_rt, if_yes, if_no, if_ok, en_rt, en_nx, s_set, s_setLc, s_ret, s_retN, s_dro, s_ife, s_par, s_par3, s_tgt, v_var, v_cst, v_glo, v_tup, v_lst, v_tupS, v_lstS, v_mls, v_bin, v_neg, v_not, t_not, v_cmp, t_cmp, v_chn, t_chn, v_isN, t_isN, v_and, v_or, t_and, t_or, v_ife, t_ife, v_idx, v_slc, v_cal, t_cal, v_blt, t_blt, v_isi, t_isi, t_var, v_lrg, v_rpr, v_frz, n_nil, n_cons, f_nil, f_cons, f_star, o_none, o_some, i_seq, i_rng1, i_rng2, i_zip, i_enu, var_0, var_s, cl_call, bAdd, bSub, cLt, cLe, cGt, cGe, cEq, cNe, cEqR, cNeR, nNeg, tBl, tIn, aAbs, aInt, aIntB, aMin, aMax, aLenT, aLenR, aTupT, aTupR, aLstR, aLstT, lq0, lq1, lq2, lq3, lq4, lq5, lq6, isiI, isiB, isiT, isiL, isiN, isiSt, isii, isib, isitt, idxT, idxR, at20, at21, at2m, at30, at31, at32, at3m, at40, at41, at42, at43, at4m, seqT, seqR, sqT, sqR, asT, asR, zipT, zipR, enuR, n_isN, n_isT, n_isI, n_isL, n_isS, d_bnd, g_nm, g_tp, g_nil, g_cons, Option.map_some, Option.map_none, Option.bind_some, if_true, if_false, Bool.false_eq_true, Bool.not_true, Bool.not_false, List.set_cons_zero, List.set_cons_succ, decide_true, decide_false, reduceCtorEq, g1, g2, i2, at10] <;> rfl) ?_
    simp only [obx, osx, s_rai, fl_ex, if_ex, ec_ex, en_ex, cut_samex, v_hrd, hr_ok, hr_ex, v_isE, t_isE, isE_err, v_fld, fld_err, v_isB, t_isB, isb_b, v_rev, revR, n_isE, or_true, true_or, or_false, false_or, and_true, true_and, and_false, false_and, or_self, and_self, not_false_eq_true, not_true_eq_false, ite_self, lcD_rng, forS_rng, fuel_rng, rng2, rng3, rng4, rngI2, rngI3, rngI4, rng8, rngI8, all0, all1, all2, all3, Bool.and_true, Bool.true_and, Bool.and_false, Bool.false_and, Sto.put_put, ib, ist, ifl, iif, ien, icu, jI, jB, jT, andB, orB, andC, orC, notB, decide_eq_true_eq, cut_same, cut_pp, v_lcm, fuel_itm, lcD_itm, forS_itm, s_for, m_nil, m_cons, mc_some, mc_none, imc, lt_def, yes_def, dt_none, dt_some, w_nil, w_cons, own_nil, own_cons, z_nil, z_nil2, z_cons, e_nil, e_cons, lk0, lk1, lk2, lk3, lk4, ea_nil, ea_cons, ec_nx, ec_ct, ec_bk, ec_rt, iec, List.nil_append, List.cons_append, ob, os, oo, ol, q_cons, q_nil, fl_nx, fl_rt, if_yes, if_no, if_ok, en_rt, en_nx, s_set, s_setLc, s_ret, s_retN, s_dro, s_ife, s_par, s_par3, s_tgt, v_var, v_cst, v_glo, v_tup, v_lst, v_tupS, v_lstS, v_mls, v_bin, v_neg, v_not, t_not, v_cmp, t_cmp, v_chn, t_chn, v_isN, t_isN, v_and, v_or, t_and, t_or, v_ife, t_ife, v_idx, v_slc, v_cal, t_cal, v_blt, t_blt, v_isi, t_isi, t_var, v_lrg, v_rpr, v_frz, n_nil, n_cons, f_nil, f_cons, f_star, o_none, o_some, i_seq, i_rng1, i_rng2, i_zip, i_enu, var_0, var_s, cl_call, bAdd, bSub, cLt, cLe, cGt, cGe, cEq, cNe, cEqR, cNeR, nNeg, tBl, tIn, aAbs, aInt, aIntB, aMin, aMax, aLenT, aLenR, aTupT, aTupR, aLstR, aLstT, lq0, lq1, lq2, lq3, lq4, lq5, lq6, isiI, isiB, isiT, isiL, isiN, isiSt, isii, isib, isitt, idxT, idxR, at20, at21, at2m, at30, at31, at32, at3m, at40, at41, at42, at43, at4m, seqT, seqR, sqT, sqR, asT, asR, zipT, zipR, enuR, n_isN, n_isT, n_isI, n_isL, n_isS, d_bnd, g_nm, g_tp, g_nil, g_cons, Option.map_some, Option.map_none, Option.bind_some, if_true, if_false, Bool.false_eq_true, Bool.not_true, Bool.not_false, List.set_cons_zero, List.set_cons_succ, decide_true, decide_false, reduceCtorEq, qq, cEqR]
theorem tail4 (n p : Nat) (kk : Int) (μ : Sto) (t : Pt) (hp : p < μ.sz) (hv : V kk t) (hk : kk ≤ 1000) (w : W4) (f : Fr) (s : Fr × Fr) (h : Lk f s) (x y z v : Fr × Fr) (sx : Sm x) (sy : Sm y) (sz : Sm z) (sv : Sm v) (e1 e2 e4 e5 e6 e8 e9 e10 e11 e12 e13 e14 : Option D) :
    ∃ t' : Pt, exSs ⟨WF, CN (n + 7)⟩ (b__law_right.drop 8) [some (.obj p), e1, e2, some (.rol [pqD x, pqD y, pqD z, pqD v]), e4, e5, e6, some (lD w f s), e8, e9, e10, e11, e12, e13, e14] (μ.put p (potL t)) = .ok (.rt (.bl true)) (μ.put p (potL t')) := by
  have lens : ∀ {ν : Sto}, bltD ν .len [.rol [pqD x, pqD y, pqD z, pqD v]] = some (.int 4, ν) := rfl
  have h33 : ¬ ((4 : Int) < 3) := by decide
  unfold b__law_right
  simp only [List.drop_succ_cons, List.drop_zero]
  by_cases hc : (decide (x = v) || (decide (y = x) || (decide (z = y) || (decide (v = z) || false)))) = true
  · refine ⟨t, ?_⟩
    rw [q_cons]
    simp only [obx, osx, s_rai, fl_ex, if_ex, ec_ex, en_ex, cut_samex, v_hrd, hr_ok, hr_ex, v_isE, t_isE, isE_err, v_fld, fld_err, v_isB, t_isB, isb_b, v_rev, revR, n_isE, or_true, true_or, or_false, false_or, and_true, true_and, and_false, false_and, or_self, and_self, not_false_eq_true, not_true_eq_false, ite_self, lcD_rng, forS_rng, fuel_rng, rng2, rng3, rng4, rngI2, rngI3, rngI4, rng8, rngI8, all0, all1, all2, all3, Bool.and_true, Bool.true_and, Bool.and_false, Bool.false_and, Sto.put_put, ib, ist, ifl, iif, ien, icu, jI, jB, jT, andB, orB, andC, orC, notB, decide_eq_true_eq, cut_same, cut_pp, v_lcm, fuel_itm, lcD_itm, forS_itm, s_for, m_nil, m_cons, mc_some, mc_none, imc, lt_def, yes_def, dt_none, dt_some, w_nil, w_cons, own_nil, own_cons, z_nil, z_nil2, z_cons, e_nil, e_cons, lk0, lk1, lk2, lk3, lk4, ea_nil, ea_cons, ec_nx, ec_ct, ec_bk, ec_rt, iec, List.nil_append, List.cons_append, ob, os, oo, ol, q_cons, q_nil, fl_nx, fl_rt, if_yes, if_no, if_ok, en_rt, en_nx, s_set, s_setLc, s_ret, s_retN, s_dro, s_ife, s_par, s_par3, s_tgt, v_var, v_cst, v_glo, v_tup, v_lst, v_tupS, v_lstS, v_mls, v_bin, v_neg, v_not, t_not, v_cmp, t_cmp, v_chn, t_chn, v_isN, t_isN, v_and, v_or, t_and, t_or, v_ife, t_ife, v_idx, v_slc, v_cal, t_cal, v_blt, t_blt, v_isi, t_isi, t_var, v_lrg, v_rpr, v_frz, n_nil, n_cons, f_nil, f_cons, f_star, o_none, o_some, i_seq, i_rng1, i_rng2, i_zip, i_enu, var_0, var_s, cl_call, bAdd, bSub, cLt, cLe, cGt, cGe, cEq, cNe, cEqR, cNeR, nNeg, tBl, tIn, aAbs, aInt, aIntB, aMin, aMax, aLenT, aLenR, aTupT, aTupR, aLstR, aLstT, lq0, lq1, lq2, lq3, lq4, lq5, lq6, isiI, isiB, isiT, isiL, isiN, isiSt, isii, isib, isitt, idxT, idxR, at20, at21, at2m, at30, at31, at32, at3m, at40, at41, at42, at43, at4m, seqT, seqR, sqT, sqR, asT, asR, zipT, zipR, enuR, n_isN, n_isT, n_isI, n_isL, n_isS, d_bnd, g_nm, g_tp, g_nil, g_cons, Option.map_some, Option.map_none, Option.bind_some, if_true, if_false, Bool.false_eq_true, Bool.not_true, Bool.not_false, List.set_cons_zero, List.set_cons_succ, decide_true, decide_false, reduceCtorEq, lens, h33, rngD1, cEqQ, any4, hc, Int.reduceSub]
  · have hc : (decide (x = v) || (decide (y = x) || (decide (z = y) || (decide (v = z) || false)))) = false := by cases q : (decide (x = v) || (decide (y = x) || (decide (z = y) || (decide (v = z) || false)))); rfl; exact absurd q hc
    have hne := hc
    simp only [Bool.or_eq_false_iff, decide_eq_false_iff_not, and_true] at hne
    obtain ⟨n0, n1, n2, n3⟩ := hne
    obtain ⟨a, t1, es, sa, v1⟩ := c_small (n + 4) p kk μ t hp hv (by omega)
    refine ⟨t1, ?_⟩
    have hr : Ring [toldP x, toldP y, toldP z, toldP v] 12 := by
      refine ⟨by simp, by simp, ?_, ?_, ?_⟩
      · intro P hP
        simp only [List.mem_cons, List.not_mem_nil, or_false] at hP
        rcases hP with rfl | rfl | rfl | rfl
        · exact sx.nm
        · exact sy.nm
        · exact sz.nm
        · exact sv.nm
      · intro P hP
        simp only [List.mem_cons, List.not_mem_nil, or_false] at hP
        rcases hP with rfl | rfl | rfl | rfl
        · exact sx.bd
        · exact sy.bd
        · exact sz.bd
        · exact sv.bd
      · intro q hq
        simp only [prs, cpr, List.mem_cons, List.not_mem_nil, or_false] at hq
        rcases hq with rfl | rfl | rfl | rfl
        · exact fun z => n1 (told_inj sy.r sx.r z.symm)
        · exact fun z => n2 (told_inj sz.r sy.r z.symm)
        · exact fun z => n3 (told_inj sv.r sz.r z.symm)
        · exact fun z => n0 (told_inj sx.r sv.r z.symm)
    have nm : ∀ P ∈ [toldP x, toldP y, toldP z, toldP v], NmP P := hr.nm
    obtain ⟨h1, h2, h3, h4⟩ := h.bd (w := w)
    have rl := ring_led (k := 200000) h.ok hr h1 h2 h3 h4 (by decide)
    have i1 := c_ins (n + 1) [toldP x, toldP y, toldP z, toldP v] (toldP a) (μ.put p (potL t1)) (hr.mono (by decide)) sa.nm (sa.bd.mono (by decide))
    have i2 := c_ins (n + 1) _ ((ldOf w f s).p (toldP a)) (μ.put p (potL t1)) rl (ld_nm h.ok sa.nm) ((h.bp sa.nm sa.bd).mono (by decide))
    rw [insD_led h sa.nm nm] at i2
    simp only [List.map_cons, List.map_nil] at i1 i2
    have tx := c_told (n + 5) x (μ.put p (potL t1)) sx.r (sx.b1.mono (by decide)) (sx.b2.mono (by decide))
    have ty := c_told (n + 5) y (μ.put p (potL t1)) sy.r (sy.b1.mono (by decide)) (sy.b2.mono (by decide))
    have tz := c_told (n + 5) z (μ.put p (potL t1)) sz.r (sz.b1.mono (by decide)) (sz.b2.mono (by decide))
    have tv := c_told (n + 5) v (μ.put p (potL t1)) sv.r (sv.b1.mono (by decide)) (sv.b2.mono (by decide))
    have ta := c_told (n + 5) a (μ.put p (potL t1)) sa.r (sa.b1.mono (by decide)) (sa.b2.mono (by decide))
    have g1 := c_tolds (w := w) (n + 2) [x, y, z, v] (μ.put p (potL t1)) h (by
      intro q hq
      simp only [List.mem_cons, List.not_mem_nil, or_false] at hq
      rcases hq with rfl | rfl | rfl | rfl <;> assumption) (by simp)
    have g2 := c_tolds (w := w) (n + 2) [a] (μ.put p (potL t1)) h (by
      intro q hq
      simp only [List.mem_cons, List.not_mem_nil, or_false] at hq
      rw [hq]; exact sa) (by simp)
    simp only [List.map_cons, List.map_nil] at g1 g2
    obtain ⟨⟨ds, ed⟩, pp, qq⟩ := insD_shw [toldP x, toldP y, toldP z, toldP v] (toldP a)
    rw [ed] at i1 i2 qq
    refine stpE (by simp only [obx, osx, s_rai, fl_ex, if_ex, ec_ex, en_ex, cut_samex, v_hrd, hr_ok, hr_ex, v_isE, t_isE, isE_err, v_fld, fld_err, v_isB, t_isB, isb_b, v_rev, revR, n_isE, or_true, true_or, or_false, false_or, and_true, true_and, and_false, false_and, or_self, and_self, not_false_eq_true, not_true_eq_false, ite_self, lcD_rng, forS_rng, fuel_rng, rng2, rng3, rng4, rngI2, rngI3, rngI4, rng8, rngI8, all0, all1, all2, all3, Bool.and_true, Bool.true_and, Bool.and_false, Bool.false_and, Sto.put_put, ib, ist, ifl, iif, ien, icu, jI, jB, jT, andB, orB, andC, orC, notB, decide_eq_true_eq, cut_same, cut_pp, v_lcm, fuel_itm, lcD_itm, forS_itm, s_for, m_nil, m_cons, mc_some, mc_none, imc, lt_def, yes_def, dt_none, dt_some, w_nil, w_cons, own_nil, own_cons, z_nil, z_nil2, z_cons, e_nil, e_cons, lk0, lk1, lk2, lk3, lk4, ea_nil, ea_cons, ec_nx, ec_ct, ec_bk, ec_rt, iec, List.nil_append, List.cons_append, ob, os, oo, ol, q_cons, q_nil, fl_nx, fl_rt, if_yes, if_no, if_ok, en_rt, en_nx, s_set, s_setLc, s_ret, s_retN, s_dro, s_ife, s_par, s_par3, s_tgt, v_var, v_cst, v_glo, v_tup, v_lst, v_tupS, v_lstS, v_mls, v_bin, v_neg, v_not, t_not, v_cmp, t_cmp, v_chn, t_chn, v_isN, t_isN, v_and, v_or, t_and, t_or, v_ife, t_ife, v_idx, v_slc, v_cal, t_cal, v_blt, t_blt, v_isi, t_isi, t_var, v_lrg, v_rpr, v_frz, n_nil, n_cons, f_nil, f_cons, f_star, o_none, o_some, i_seq, i_rng1, i_rng2, i_zip, i_enu, var_0, var_s, cl_call, bAdd, bSub, cLt, cLe, cGt, cGe, cEq, cNe, cEqR, cNeR, nNeg, tBl, tIn, aAbs, aInt, aIntB, aMin, aMax, aLenT, aLenR, aTupT, aTupR, aLstR, aLstT, lq0, lq1, lq2, lq3, lq4, lq5, lq6, isiI, isiB, isiT, isiL, isiN, isiSt, isii, isib, isitt, idxT, idxR, at20, at21, at2m, at30, at31, at32, at3m, at40, at41, at42, at43, at4m, seqT, seqR, sqT, sqR, asT, asR, zipT, zipR, enuR, n_isN, n_isT, n_isI, n_isL, n_isS, d_bnd, g_nm, g_tp, g_nil, g_cons, Option.map_some, Option.map_none, Option.bind_some, if_true, if_false, Bool.false_eq_true, Bool.not_true, Bool.not_false, List.set_cons_zero, List.set_cons_succ, decide_true, decide_false, reduceCtorEq, lens, h33, rngD1, cEqQ, any4, hc, Int.reduceSub] <;> rfl) ?_
    refine stpE (by simp only [obx, osx, s_rai, fl_ex, if_ex, ec_ex, en_ex, cut_samex, v_hrd, hr_ok, hr_ex, v_isE, t_isE, isE_err, v_fld, fld_err, v_isB, t_isB, isb_b, v_rev, revR, n_isE, or_true, true_or, or_false, false_or, and_true, true_and, and_false, false_and, or_self, and_self, not_false_eq_true, not_true_eq_false, ite_self, lcD_rng, forS_rng, fuel_rng, rng2, rng3, rng4, rngI2, rngI3, rngI4, rng8, rngI8, all0, all1, all2, all3, Bool.and_true, Bool.true_and, Bool.and_false, Bool.false_and, Sto.put_put, ib, ist, ifl, iif, ien, icu, jI, jB, jT, andB, orB, andC, orC, notB, decide_eq_true_eq, cut_same, cut_pp, v_lcm, fuel_itm, lcD_itm, forS_itm, s_for, m_nil, m_cons, mc_some, mc_none, imc, lt_def, yes_def, dt_none, dt_some, w_nil, w_cons, own_nil, own_cons, z_nil, z_nil2, z_cons, e_nil, e_cons, lk0, lk1, lk2, lk3, lk4, ea_nil, ea_cons, ec_nx, ec_ct, ec_bk, ec_rt, iec, List.nil_append, List.cons_append, ob, os, oo, ol, q_cons, q_nil, fl_nx, fl_rt, if_yes, if_no, if_ok, en_rt, en_nx, s_set, s_setLc, s_ret, s_retN, s_dro, s_ife, s_par, s_par3, s_tgt, v_var, v_cst, v_glo, v_tup, v_lst, v_tupS, v_lstS, v_mls, v_bin, v_neg, v_not, t_not, v_cmp, t_cmp, v_chn, t_chn, v_isN, t_isN, v_and, v_or, t_and, t_or, v_ife, t_ife, v_idx, v_slc, v_cal, t_cal, v_blt, t_blt, v_isi, t_isi, t_var, v_lrg, v_rpr, v_frz, n_nil, n_cons, f_nil, f_cons, f_star, o_none, o_some, i_seq, i_rng1, i_rng2, i_zip, i_enu, var_0, var_s, cl_call, bAdd, bSub, cLt, cLe, cGt, cGe, cEq, cNe, cEqR, cNeR, nNeg, tBl, tIn, aAbs, aInt, aIntB, aMin, aMax, aLenT, aLenR, aTupT, aTupR, aLstR, aLstT, lq0, lq1, lq2, lq3, lq4, lq5, lq6, isiI, isiB, isiT, isiL, isiN, isiSt, isii, isib, isitt, idxT, idxR, at20, at21, at2m, at30, at31, at32, at3m, at40, at41, at42, at43, at4m, seqT, seqR, sqT, sqR, asT, asR, zipT, zipR, enuR, n_isN, n_isT, n_isI, n_isL, n_isS, d_bnd, g_nm, g_tp, g_nil, g_cons, Option.map_some, Option.map_none, Option.bind_some, if_true, if_false, Bool.false_eq_true, Bool.not_true, Bool.not_false, List.set_cons_zero, List.set_cons_succ, decide_true, decide_false, reduceCtorEq, es] <;> rfl) ?_
    refine stpE (by simp only [obx, osx, s_rai, fl_ex, if_ex, ec_ex, en_ex, cut_samex, v_hrd, hr_ok, hr_ex, v_isE, t_isE, isE_err, v_fld, fld_err, v_isB, t_isB, isb_b, v_rev, revR, n_isE, or_true, true_or, or_false, false_or, and_true, true_and, and_false, false_and, or_self, and_self, not_false_eq_true, not_true_eq_false, ite_self, lcD_rng, forS_rng, fuel_rng, rng2, rng3, rng4, rngI2, rngI3, rngI4, rng8, rngI8, all0, all1, all2, all3, Bool.and_true, Bool.true_and, Bool.and_false, Bool.false_and, Sto.put_put, ib, ist, ifl, iif, ien, icu, jI, jB, jT, andB, orB, andC, orC, notB, decide_eq_true_eq, cut_same, cut_pp, v_lcm, fuel_itm, lcD_itm, forS_itm, s_for, m_nil, m_cons, mc_some, mc_none, imc, lt_def, yes_def, dt_none, dt_some, w_nil, w_cons, own_nil, own_cons, z_nil, z_nil2, z_cons, e_nil, e_cons, lk0, lk1, lk2, lk3, lk4, ea_nil, ea_cons, ec_nx, ec_ct, ec_bk, ec_rt, iec, List.nil_append, List.cons_append, ob, os, oo, ol, q_cons, q_nil, fl_nx, fl_rt, if_yes, if_no, if_ok, en_rt, en_nx, s_set, s_setLc, s_ret, s_retN, s_dro, s_ife, s_par, s_par3, s_tgt, v_var, v_cst, v_glo, v_tup, v_lst, v_tupS, v_lstS, v_mls, v_bin, v_neg, v_not, t_not, v_cmp, t_cmp, v_chn, t_chn, v_isN, t_isN, v_and, v_or, t_and, t_or, v_ife, t_ife, v_idx, v_slc, v_cal, t_cal, v_blt, t_blt, v_isi, t_isi, t_var, v_lrg, v_rpr, v_frz, n_nil, n_cons, f_nil, f_cons, f_star, o_none, o_some, i_seq, i_rng1, i_rng2, i_zip, i_enu, var_0, var_s, cl_call, bAdd, bSub, cLt, cLe, cGt, cGe, cEq, cNe, cEqR, cNeR, nNeg, tBl, tIn, aAbs, aInt, aIntB, aMin, aMax, aLenT, aLenR, aTupT, aTupR, aLstR, aLstT, lq0, lq1, lq2, lq3, lq4, lq5, lq6, isiI, isiB, isiT, isiL, isiN, isiSt, isii, isib, isitt, idxT, idxR, at20, at21, at2m, at30, at31, at32, at3m, at40, at41, at42, at43, at4m, seqT, seqR, sqT, sqR, asT, asR, zipT, zipR, enuR, n_isN, n_isT, n_isI, n_isL, n_isS, d_bnd, g_nm, g_tp, g_nil, g_cons, Option.map_some, Option.map_none, Option.bind_some, if_true, if_false, Bool.false_eq_true, Bool.not_true, Bool.not_false, List.set_cons_zero, List.set_cons_succ, decide_true, decide_false, reduceCtorEq, tx, ty, tz, tv, ta, i1] <;> rfl) ?_
    refine stpE (by simp only [obx, osx, s_rai, fl_ex, if_ex, ec_ex, en_ex, cut_samex, v_hrd, hr_ok, hr_ex, v_isE, t_isE, isE_err, v_fld, fld_err, v_isB, t_isB, isb_b, v_rev, revR, n_isE, or_true, true_or, or_false, false_or, and_true, true_and, and_false, false_and, or_self, and_self, not_false_eq_true, not_true_eq_false, ite_self, lcD_rng, forS_rng, fuel_rng, rng2, rng3, rng4, rngI2, rngI3, rngI4, rng8, rngI8, all0, all1, all2, all3, Bool.and_true, Bool.true_and, Bool.and_false, Bool.false_and, Sto.put_put, ib, ist, ifl, iif, ien, icu, jI, jB, jT, andB, orB, andC, orC, notB, decide_eq_true_eq, cut_same, cut_pp, v_lcm, fuel_itm, lcD_itm, forS_itm, s_for, m_nil, m_cons, mc_some, mc_none, imc, lt_def, yes_def, dt_none, dt_some, w_nil, w_cons, own_nil, own_cons, z_nil, z_nil2, z_cons, e_nil, e_cons, lk0, lk1, lk2, lk3, lk4, ea_nil, ea_cons, ec_nx, ec_ct, ec_bk, ec_rt, iec, List.nil_append, List.cons_append, ob, os, oo, ol, q_cons, q_nil, fl_nx, fl_rt, if_yes, if_no, if_ok, en_rt, en_nx, s_set, s_setLc, s_ret, s_retN, s_dro, s_ife, s_par, s_par3, s_tgt, v_var, v_cst, v_glo, v_tup, v_lst, v_tupS, v_lstS, v_mls, v_bin, v_neg, v_not, t_not, v_cmp, t_cmp, v_chn, t_chn, v_isN, t_isN, v_and, v_or, t_and, t_or, v_ife, t_ife, v_idx, v_slc, v_cal, t_cal, v_blt, t_blt, v_isi, t_isi, t_var, v_lrg, v_rpr, v_frz, n_nil, n_cons, f_nil, f_cons, f_star, o_none, o_some, i_seq, i_rng1, i_rng2, i_zip, i_enu, var_0, var_s, cl_call, bAdd, bSub, cLt, cLe, cGt, cGe, cEq, cNe, cEqR, cNeR, nNeg, tBl, tIn, aAbs, aInt, aIntB, aMin, aMax, aLenT, aLenR, aTupT, aTupR, aLstR, aLstT, lq0, lq1, lq2, lq3, lq4, lq5, lq6, isiI, isiB, isiT, isiL, isiN, isiSt, isii, isib, isitt, idxT, idxR, at20, at21, at2m, at30, at31, at32, at3m, at40, at41, at42, at43, at4m, seqT, seqR, sqT, sqR, asT, asR, zipT, zipR, enuR, n_isN, n_isT, n_isI, n_isL, n_isS, d_bnd, g_nm, g_tp, g_nil, g_cons, Option.map_some, Option.map_none, Option.bind_some, if_true, if_false, Bool.false_eq_true, Bool.not_true, Bool.not_false, List.set_cons_zero, List.set_cons_succ, decide_true, decide_false, reduceCtorEq, g1, g2, i2, at10] <;> rfl) ?_
    simp only [obx, osx, s_rai, fl_ex, if_ex, ec_ex, en_ex, cut_samex, v_hrd, hr_ok, hr_ex, v_isE, t_isE, isE_err, v_fld, fld_err, v_isB, t_isB, isb_b, v_rev, revR, n_isE, or_true, true_or, or_false, false_or, and_true, true_and, and_false, false_and, or_self, and_self, not_false_eq_true, not_true_eq_false, ite_self, lcD_rng, forS_rng, fuel_rng, rng2, rng3, rng4, rngI2, rngI3, rngI4, rng8, rngI8, all0, all1, all2, all3, Bool.and_true, Bool.true_and, Bool.and_false, Bool.false_and, Sto.put_put, ib, ist, ifl, iif, ien, icu, jI, jB, jT, andB, orB, andC, orC, notB, decide_eq_true_eq, cut_same, cut_pp, v_lcm, fuel_itm, lcD_itm, forS_itm, s_for, m_nil, m_cons, mc_some, mc_none, imc, lt_def, yes_def, dt_none, dt_some, w_nil, w_cons, own_nil, own_cons, z_nil, z_nil2, z_cons, e_nil, e_cons, lk0, lk1, lk2, lk3, lk4, ea_nil, ea_cons, ec_nx, ec_ct, ec_bk, ec_rt, iec, List.nil_append, List.cons_append, ob, os, oo, ol, q_cons, q_nil, fl_nx, fl_rt, if_yes, if_no, if_ok, en_rt, en_nx, s_set, s_setLc, s_ret, s_retN, s_dro, s_ife, s_par, s_par3, s_tgt, v_var, v_cst, v_glo, v_tup, v_lst, v_tupS, v_lstS, v_mls, v_bin, v_neg, v_not, t_not, v_cmp, t_cmp, v_chn, t_chn, v_isN, t_isN, v_and, v_or, t_and, t_or, v_ife, t_ife, v_idx, v_slc, v_cal, t_cal, v_blt, t_blt, v_isi, t_isi, t_var, v_lrg, v_rpr, v_frz, n_nil, n_cons, f_nil, f_cons, f_star, o_none, o_some, i_seq, i_rng1, i_rng2, i_zip, i_enu, var_0, var_s, cl_call, bAdd, bSub, cLt, cLe, cGt, cGe, cEq, cNe, cEqR, cNeR, nNeg, tBl, tIn, aAbs, aInt, aIntB, aMin, aMax, aLenT, aLenR, aTupT, aTupR, aLstR, aLstT, lq0, lq1, lq2, lq3, lq4, lq5, lq6, isiI, isiB, isiT, isiL, isiN, isiSt, isii, isib, isitt, idxT, idxR, at20, at21, at2m, at30, at31, at32, at3m, at40, at41, at42, at43, at4m, seqT, seqR, sqT, sqR, asT, asR, zipT, zipR, enuR, n_isN, n_isT, n_isI, n_isL, n_isS, d_bnd, g_nm, g_tp, g_nil, g_cons, Option.map_some, Option.map_none, Option.bind_some, if_true, if_false, Bool.false_eq_true, Bool.not_true, Bool.not_false, List.set_cons_zero, List.set_cons_succ, decide_true, decide_false, reduceCtorEq, qq, cEqR]
/-- how two stretches meet, told and led -/
theorem c_meetpart (n : Nat) (μ : Sto) (w : W4) (f : Fr) (s : Fr × Fr) (h : Lk f s) (a b c d : Fr × Fr) (sa : Sm a) (sb : Sm b) (sc : Sm c) (sd : Sm d) (e0 e1 e2 e3 e4 e12 e13 e14 : Option D) :
    ∃ e5 e6 e11 : Option D, exS ⟨WF, CN (n + 7)⟩ (.ife (.and (.cmp .NotEq (.idx (.var 8) (.cst (.int 0))) (.idx (.var 8) (.cst (.int 1)))) (.cmp .NotEq (.idx (.var 8) (.cst (.int 2))) (.idx (.var 8) (.cst (.int 3))))) [(.par 5 6 (.cal "meet" (.cons (.idx (.var 9) (.cst (.int 0))) (.cons (.idx (.var 9) (.cst (.int 1))) (.cons (.idx (.var 9) (.cst (.int 2))) (.cons (.idx (.var 9) (.cst (.int 3))) .nil))))) (.cal "meet" (.cons (.idx (.var 10) (.cst (.int 0))) (.cons (.idx (.var 10) (.cst (.int 1))) (.cons (.idx (.var 10) (.cst (.int 2))) (.cons (.idx (.var 10) (.cst (.int 3))) .nil)))))), (.set 11 (.ife (.cmp .Eq (.blt .len (.cons (.var 5) .nil)) (.cst (.int 1))) (.var 5) (.tup (.cons (.idx (.var 5) (.cst (.int 0))) (.cons (.cal "_law_led_told" (.cons (.var 7) (.cons (.idx (.var 5) (.cst (.int 1))) .nil))) .nil))))), (.ife (.cmp .NotEq (.rpr (.var 6)) (.rpr (.var 11))) [(.ret (.cst (.bl false)))] [])] []) [e0, e1, e2, e3, e4, none, none, some (lD w f s), some (.rol [pqD a, pqD b, pqD c, pqD d]), some (.rol [pD (toldP a), pD (toldP b), pD (toldP c), pD (toldP d)]), some (.rol [pD ((ldOf w f s).p (toldP a)), pD ((ldOf w f s).p (toldP b)), pD ((ldOf w f s).p (toldP c)), pD ((ldOf w f s).p (toldP d))]), none, e12, e13, e14] μ =
      .ok (.nx [e0, e1, e2, e3, e4, e5, e6, some (lD w f s), some (.rol [pqD a, pqD b, pqD c, pqD d]), some (.rol [pD (toldP a), pD (toldP b), pD (toldP c), pD (toldP d)]), some (.rol [pD ((ldOf w f s).p (toldP a)), pD ((ldOf w f s).p (toldP b)), pD ((ldOf w f s).p (toldP c)), pD ((ldOf w f s).p (toldP d))]), e11, e12, e13, e14]) μ := by
  by_cases h1 : a = b
  · exact ⟨none, none, none, by simp only [obx, osx, s_rai, fl_ex, if_ex, ec_ex, en_ex, cut_samex, v_hrd, hr_ok, hr_ex, v_isE, t_isE, isE_err, v_fld, fld_err, v_isB, t_isB, isb_b, v_rev, revR, n_isE, or_true, true_or, or_false, false_or, and_true, true_and, and_false, false_and, or_self, and_self, not_false_eq_true, not_true_eq_false, ite_self, lcD_rng, forS_rng, fuel_rng, rng2, rng3, rng4, rngI2, rngI3, rngI4, rng8, rngI8, all0, all1, all2, all3, Bool.and_true, Bool.true_and, Bool.and_false, Bool.false_and, Sto.put_put, ib, ist, ifl, iif, ien, icu, jI, jB, jT, andB, orB, andC, orC, notB, decide_eq_true_eq, cut_same, cut_pp, v_lcm, fuel_itm, lcD_itm, forS_itm, s_for, m_nil, m_cons, mc_some, mc_none, imc, lt_def, yes_def, dt_none, dt_some, w_nil, w_cons, own_nil, own_cons, z_nil, z_nil2, z_cons, e_nil, e_cons, lk0, lk1, lk2, lk3, lk4, ea_nil, ea_cons, ec_nx, ec_ct, ec_bk, ec_rt, iec, List.nil_append, List.cons_append, ob, os, oo, ol, q_cons, q_nil, fl_nx, fl_rt, if_yes, if_no, if_ok, en_rt, en_nx, s_set, s_setLc, s_ret, s_retN, s_dro, s_ife, s_par, s_par3, s_tgt, v_var, v_cst, v_glo, v_tup, v_lst, v_tupS, v_lstS, v_mls, v_bin, v_neg, v_not, t_not, v_cmp, t_cmp, v_chn, t_chn, v_isN, t_isN, v_and, v_or, t_and, t_or, v_ife, t_ife, v_idx, v_slc, v_cal, t_cal, v_blt, t_blt, v_isi, t_isi, t_var, v_lrg, v_rpr, v_frz, n_nil, n_cons, f_nil, f_cons, f_star, o_none, o_some, i_seq, i_rng1, i_rng2, i_zip, i_enu, var_0, var_s, cl_call, bAdd, bSub, cLt, cLe, cGt, cGe, cEq, cNe, cEqR, cNeR, nNeg, tBl, tIn, aAbs, aInt, aIntB, aMin, aMax, aLenT, aLenR, aTupT, aTupR, aLstR, aLstT, lq0, lq1, lq2, lq3, lq4, lq5, lq6, isiI, isiB, isiT, isiL, isiN, isiSt, isii, isib, isitt, idxT, idxR, at20, at21, at2m, at30, at31, at32, at3m, at40, at41, at42, at43, at4m, seqT, seqR, sqT, sqR, asT, asR, zipT, zipR, enuR, n_isN, n_isT, n_isI, n_isL, n_isS, d_bnd, g_nm, g_tp, g_nil, g_cons, Option.map_some, Option.map_none, Option.bind_some, if_true, if_false, Bool.false_eq_true, Bool.not_true, Bool.not_false, List.set_cons_zero, List.set_cons_succ, decide_true, decide_false, reduceCtorEq, cNeQ, h1]⟩
  by_cases h2 : c = d
  · exact ⟨none, none, none, by simp only [obx, osx, s_rai, fl_ex, if_ex, ec_ex, en_ex, cut_samex, v_hrd, hr_ok, hr_ex, v_isE, t_isE, isE_err, v_fld, fld_err, v_isB, t_isB, isb_b, v_rev, revR, n_isE, or_true, true_or, or_false, false_or, and_true, true_and, and_false, false_and, or_self, and_self, not_false_eq_true, not_true_eq_false, ite_self, lcD_rng, forS_rng, fuel_rng, rng2, rng3, rng4, rngI2, rngI3, rngI4, rng8, rngI8, all0, all1, all2, all3, Bool.and_true, Bool.true_and, Bool.and_false, Bool.false_and, Sto.put_put, ib, ist, ifl, iif, ien, icu, jI, jB, jT, andB, orB, andC, orC, notB, decide_eq_true_eq, cut_same, cut_pp, v_lcm, fuel_itm, lcD_itm, forS_itm, s_for, m_nil, m_cons, mc_some, mc_none, imc, lt_def, yes_def, dt_none, dt_some, w_nil, w_cons, own_nil, own_cons, z_nil, z_nil2, z_cons, e_nil, e_cons, lk0, lk1, lk2, lk3, lk4, ea_nil, ea_cons, ec_nx, ec_ct, ec_bk, ec_rt, iec, List.nil_append, List.cons_append, ob, os, oo, ol, q_cons, q_nil, fl_nx, fl_rt, if_yes, if_no, if_ok, en_rt, en_nx, s_set, s_setLc, s_ret, s_retN, s_dro, s_ife, s_par, s_par3, s_tgt, v_var, v_cst, v_glo, v_tup, v_lst, v_tupS, v_lstS, v_mls, v_bin, v_neg, v_not, t_not, v_cmp, t_cmp, v_chn, t_chn, v_isN, t_isN, v_and, v_or, t_and, t_or, v_ife, t_ife, v_idx, v_slc, v_cal, t_cal, v_blt, t_blt, v_isi, t_isi, t_var, v_lrg, v_rpr, v_frz, n_nil, n_cons, f_nil, f_cons, f_star, o_none, o_some, i_seq, i_rng1, i_rng2, i_zip, i_enu, var_0, var_s, cl_call, bAdd, bSub, cLt, cLe, cGt, cGe, cEq, cNe, cEqR, cNeR, nNeg, tBl, tIn, aAbs, aInt, aIntB, aMin, aMax, aLenT, aLenR, aTupT, aTupR, aLstR, aLstT, lq0, lq1, lq2, lq3, lq4, lq5, lq6, isiI, isiB, isiT, isiL, isiN, isiSt, isii, isib, isitt, idxT, idxR, at20, at21, at2m, at30, at31, at32, at3m, at40, at41, at42, at43, at4m, seqT, seqR, sqT, sqR, asT, asR, zipT, zipR, enuR, n_isN, n_isT, n_isI, n_isL, n_isS, d_bnd, g_nm, g_tp, g_nil, g_cons, Option.map_some, Option.map_none, Option.bind_some, if_true, if_false, Bool.false_eq_true, Bool.not_true, Bool.not_false, List.set_cons_zero, List.set_cons_succ, decide_true, decide_false, reduceCtorEq, cNeQ, h1, h2]⟩
  have n1 : toldP a ≠ toldP b := fun z => h1 (told_inj sa.r sb.r z)
  have n2 : toldP c ≠ toldP d := fun z => h2 (told_inj sc.r sd.r z)
  have m1 := c_meet (n + 3) _ _ _ _ μ sa.nm sb.nm sc.nm sd.nm (sa.bd.mono (by decide)) (sb.bd.mono (by decide)) (sc.bd.mono (by decide)) (sd.bd.mono (by decide)) n1 n2
  have m2 := c_meet (n + 3) _ _ _ _ μ (ld_nm (h.ok (w := w)) sa.nm) (ld_nm (h.ok (w := w)) sb.nm) (ld_nm (h.ok (w := w)) sc.nm) (ld_nm (h.ok (w := w)) sd.nm) ((h.bp sa.nm sa.bd).mono (by decide)) ((h.bp sb.nm sb.bd).mono (by decide)) ((h.bp sc.nm sc.bd).mono (by decide)) ((h.bp sd.nm sd.bd).mono (by decide)) (fun z => n1 ((ld_inj h.ok sa.nm sb.nm).mp z)) (fun z => n2 ((ld_inj h.ok sc.nm sd.nm).mp z))
  have ld := cross_ld (h.ok (w := w)) sa.nm sb.nm sc.nm sd.nm n1 n2
  have mt := fun P => cross_pt (P := P) sa.nm sb.nm sa.bd sb.bd sc.bd sd.bd
  have mt2 := cross_mt (ld_nm (h.ok (w := w)) sa.nm) (ld_nm (h.ok (w := w)) sb.nm) ((h.bp (w := w) sa.nm sa.bd).mono (by decide)) ((h.bp (w := w) sb.nm sb.bd).mono (by decide)) ((h.bp (w := w) sc.nm sc.bd).mono (by decide)) ((h.bp (w := w) sd.nm sd.bd).mono (by decide))
  have l1 : ∀ {x : D}, bltD μ .len [.tup [x]] = some (.int 1, μ) := rfl
  have l2 : ∀ {x y : D}, bltD μ .len [.tup [x, y]] = some (.int 2, μ) := rfl
  have h21 : ¬ ((2 : Int) = 1) := by decide
  generalize crossP (toldP a) (toldP b) (toldP c) (toldP d) = X at *
  generalize crossP ((ldOf w f s).p (toldP a)) ((ldOf w f s).p (toldP b)) ((ldOf w f s).p (toldP c)) ((ldOf w f s).p (toldP d)) = Y at *
  obtain ⟨py, hpy, _⟩ := mt2.py
  have q := hpy μ
  rcases ld with ⟨rfl, rfl⟩ | ⟨rfl, rfl⟩ | ⟨P, nP, rfl, rfl⟩ | ⟨P, nP, rfl, rfl⟩
  · unfold tNone at m1 m2 q
    exact ⟨_, _, _, by simp only [obx, osx, s_rai, fl_ex, if_ex, ec_ex, en_ex, cut_samex, v_hrd, hr_ok, hr_ex, v_isE, t_isE, isE_err, v_fld, fld_err, v_isB, t_isB, isb_b, v_rev, revR, n_isE, or_true, true_or, or_false, false_or, and_true, true_and, and_false, false_and, or_self, and_self, not_false_eq_true, not_true_eq_false, ite_self, lcD_rng, forS_rng, fuel_rng, rng2, rng3, rng4, rngI2, rngI3, rngI4, rng8, rngI8, all0, all1, all2, all3, Bool.and_true, Bool.true_and, Bool.and_false, Bool.false_and, Sto.put_put, ib, ist, ifl, iif, ien, icu, jI, jB, jT, andB, orB, andC, orC, notB, decide_eq_true_eq, cut_same, cut_pp, v_lcm, fuel_itm, lcD_itm, forS_itm, s_for, m_nil, m_cons, mc_some, mc_none, imc, lt_def, yes_def, dt_none, dt_some, w_nil, w_cons, own_nil, own_cons, z_nil, z_nil2, z_cons, e_nil, e_cons, lk0, lk1, lk2, lk3, lk4, ea_nil, ea_cons, ec_nx, ec_ct, ec_bk, ec_rt, iec, List.nil_append, List.cons_append, ob, os, oo, ol, q_cons, q_nil, fl_nx, fl_rt, if_yes, if_no, if_ok, en_rt, en_nx, s_set, s_setLc, s_ret, s_retN, s_dro, s_ife, s_par, s_par3, s_tgt, v_var, v_cst, v_glo, v_tup, v_lst, v_tupS, v_lstS, v_mls, v_bin, v_neg, v_not, t_not, v_cmp, t_cmp, v_chn, t_chn, v_isN, t_isN, v_and, v_or, t_and, t_or, v_ife, t_ife, v_idx, v_slc, v_cal, t_cal, v_blt, t_blt, v_isi, t_isi, t_var, v_lrg, v_rpr, v_frz, n_nil, n_cons, f_nil, f_cons, f_star, o_none, o_some, i_seq, i_rng1, i_rng2, i_zip, i_enu, var_0, var_s, cl_call, bAdd, bSub, cLt, cLe, cGt, cGe, cEq, cNe, cEqR, cNeR, nNeg, tBl, tIn, aAbs, aInt, aIntB, aMin, aMax, aLenT, aLenR, aTupT, aTupR, aLstR, aLstT, lq0, lq1, lq2, lq3, lq4, lq5, lq6, isiI, isiB, isiT, isiL, isiN, isiSt, isii, isib, isitt, idxT, idxR, at20, at21, at2m, at30, at31, at32, at3m, at40, at41, at42, at43, at4m, seqT, seqR, sqT, sqR, asT, asR, zipT, zipR, enuR, n_isN, n_isT, n_isI, n_isL, n_isS, d_bnd, g_nm, g_tp, g_nil, g_cons, Option.map_some, Option.map_none, Option.bind_some, if_true, if_false, Bool.false_eq_true, Bool.not_true, Bool.not_false, List.set_cons_zero, List.set_cons_succ, decide_true, decide_false, reduceCtorEq, cNeQ, h1, h2, m1, m2, l1, eq_self, q, cNeR] <;> rfl⟩
  · unfold tAlong at m1 m2 q
    exact ⟨_, _, _, by simp only [obx, osx, s_rai, fl_ex, if_ex, ec_ex, en_ex, cut_samex, v_hrd, hr_ok, hr_ex, v_isE, t_isE, isE_err, v_fld, fld_err, v_isB, t_isB, isb_b, v_rev, revR, n_isE, or_true, true_or, or_false, false_or, and_true, true_and, and_false, false_and, or_self, and_self, not_false_eq_true, not_true_eq_false, ite_self, lcD_rng, forS_rng, fuel_rng, rng2, rng3, rng4, rngI2, rngI3, rngI4, rng8, rngI8, all0, all1, all2, all3, Bool.and_true, Bool.true_and, Bool.and_false, Bool.false_and, Sto.put_put, ib, ist, ifl, iif, ien, icu, jI, jB, jT, andB, orB, andC, orC, notB, decide_eq_true_eq, cut_same, cut_pp, v_lcm, fuel_itm, lcD_itm, forS_itm, s_for, m_nil, m_cons, mc_some, mc_none, imc, lt_def, yes_def, dt_none, dt_some, w_nil, w_cons, own_nil, own_cons, z_nil, z_nil2, z_cons, e_nil, e_cons, lk0, lk1, lk2, lk3, lk4, ea_nil, ea_cons, ec_nx, ec_ct, ec_bk, ec_rt, iec, List.nil_append, List.cons_append, ob, os, oo, ol, q_cons, q_nil, fl_nx, fl_rt, if_yes, if_no, if_ok, en_rt, en_nx, s_set, s_setLc, s_ret, s_retN, s_dro, s_ife, s_par, s_par3, s_tgt, v_var, v_cst, v_glo, v_tup, v_lst, v_tupS, v_lstS, v_mls, v_bin, v_neg, v_not, t_not, v_cmp, t_cmp, v_chn, t_chn, v_isN, t_isN, v_and, v_or, t_and, t_or, v_ife, t_ife, v_idx, v_slc, v_cal, t_cal, v_blt, t_blt, v_isi, t_isi, t_var, v_lrg, v_rpr, v_frz, n_nil, n_cons, f_nil, f_cons, f_star, o_none, o_some, i_seq, i_rng1, i_rng2, i_zip, i_enu, var_0, var_s, cl_call, bAdd, bSub, cLt, cLe, cGt, cGe, cEq, cNe, cEqR, cNeR, nNeg, tBl, tIn, aAbs, aInt, aIntB, aMin, aMax, aLenT, aLenR, aTupT, aTupR, aLstR, aLstT, lq0, lq1, lq2, lq3, lq4, lq5, lq6, isiI, isiB, isiT, isiL, isiN, isiSt, isii, isib, isitt, idxT, idxR, at20, at21, at2m, at30, at31, at32, at3m, at40, at41, at42, at43, at4m, seqT, seqR, sqT, sqR, asT, asR, zipT, zipR, enuR, n_isN, n_isT, n_isI, n_isL, n_isS, d_bnd, g_nm, g_tp, g_nil, g_cons, Option.map_some, Option.map_none, Option.bind_some, if_true, if_false, Bool.false_eq_true, Bool.not_true, Bool.not_false, List.set_cons_zero, List.set_cons_succ, decide_true, decide_false, reduceCtorEq, cNeQ, h1, h2, m1, m2, l1, eq_self, q, cNeR] <;> rfl⟩
  · have bP : BdP P 280 := (mt P rfl).mono (by decide)
    have lt := c_ledtold (w := w) (n + 2) P μ h nP bP
    unfold tTouch at m1 m2 q
    exact ⟨_, _, _, by simp only [obx, osx, s_rai, fl_ex, if_ex, ec_ex, en_ex, cut_samex, v_hrd, hr_ok, hr_ex, v_isE, t_isE, isE_err, v_fld, fld_err, v_isB, t_isB, isb_b, v_rev, revR, n_isE, or_true, true_or, or_false, false_or, and_true, true_and, and_false, false_and, or_self, and_self, not_false_eq_true, not_true_eq_false, ite_self, lcD_rng, forS_rng, fuel_rng, rng2, rng3, rng4, rngI2, rngI3, rngI4, rng8, rngI8, all0, all1, all2, all3, Bool.and_true, Bool.true_and, Bool.and_false, Bool.false_and, Sto.put_put, ib, ist, ifl, iif, ien, icu, jI, jB, jT, andB, orB, andC, orC, notB, decide_eq_true_eq, cut_same, cut_pp, v_lcm, fuel_itm, lcD_itm, forS_itm, s_for, m_nil, m_cons, mc_some, mc_none, imc, lt_def, yes_def, dt_none, dt_some, w_nil, w_cons, own_nil, own_cons, z_nil, z_nil2, z_cons, e_nil, e_cons, lk0, lk1, lk2, lk3, lk4, ea_nil, ea_cons, ec_nx, ec_ct, ec_bk, ec_rt, iec, List.nil_append, List.cons_append, ob, os, oo, ol, q_cons, q_nil, fl_nx, fl_rt, if_yes, if_no, if_ok, en_rt, en_nx, s_set, s_setLc, s_ret, s_retN, s_dro, s_ife, s_par, s_par3, s_tgt, v_var, v_cst, v_glo, v_tup, v_lst, v_tupS, v_lstS, v_mls, v_bin, v_neg, v_not, t_not, v_cmp, t_cmp, v_chn, t_chn, v_isN, t_isN, v_and, v_or, t_and, t_or, v_ife, t_ife, v_idx, v_slc, v_cal, t_cal, v_blt, t_blt, v_isi, t_isi, t_var, v_lrg, v_rpr, v_frz, n_nil, n_cons, f_nil, f_cons, f_star, o_none, o_some, i_seq, i_rng1, i_rng2, i_zip, i_enu, var_0, var_s, cl_call, bAdd, bSub, cLt, cLe, cGt, cGe, cEq, cNe, cEqR, cNeR, nNeg, tBl, tIn, aAbs, aInt, aIntB, aMin, aMax, aLenT, aLenR, aTupT, aTupR, aLstR, aLstT, lq0, lq1, lq2, lq3, lq4, lq5, lq6, isiI, isiB, isiT, isiL, isiN, isiSt, isii, isib, isitt, idxT, idxR, at20, at21, at2m, at30, at31, at32, at3m, at40, at41, at42, at43, at4m, seqT, seqR, sqT, sqR, asT, asR, zipT, zipR, enuR, n_isN, n_isT, n_isI, n_isL, n_isS, d_bnd, g_nm, g_tp, g_nil, g_cons, Option.map_some, Option.map_none, Option.bind_some, if_true, if_false, Bool.false_eq_true, Bool.not_true, Bool.not_false, List.set_cons_zero, List.set_cons_succ, decide_true, decide_false, reduceCtorEq, cNeQ, h1, h2, m1, m2, l2, h21, lt, q, cNeR] <;> rfl⟩
  · have bP : BdP P 280 := (mt P rfl).mono (by decide)
    have lt := c_ledtold (w := w) (n + 2) P μ h nP bP
    unfold tCross at m1 m2 q
    exact ⟨_, _, _, by simp only [obx, osx, s_rai, fl_ex, if_ex, ec_ex, en_ex, cut_samex, v_hrd, hr_ok, hr_ex, v_isE, t_isE, isE_err, v_fld, fld_err, v_isB, t_isB, isb_b, v_rev, revR, n_isE, or_true, true_or, or_false, false_or, and_true, true_and, and_false, false_and, or_self, and_self, not_false_eq_true, not_true_eq_false, ite_self, lcD_rng, forS_rng, fuel_rng, rng2, rng3, rng4, rngI2, rngI3, rngI4, rng8, rngI8, all0, all1, all2, all3, Bool.and_true, Bool.true_and, Bool.and_false, Bool.false_and, Sto.put_put, ib, ist, ifl, iif, ien, icu, jI, jB, jT, andB, orB, andC, orC, notB, decide_eq_true_eq, cut_same, cut_pp, v_lcm, fuel_itm, lcD_itm, forS_itm, s_for, m_nil, m_cons, mc_some, mc_none, imc, lt_def, yes_def, dt_none, dt_some, w_nil, w_cons, own_nil, own_cons, z_nil, z_nil2, z_cons, e_nil, e_cons, lk0, lk1, lk2, lk3, lk4, ea_nil, ea_cons, ec_nx, ec_ct, ec_bk, ec_rt, iec, List.nil_append, List.cons_append, ob, os, oo, ol, q_cons, q_nil, fl_nx, fl_rt, if_yes, if_no, if_ok, en_rt, en_nx, s_set, s_setLc, s_ret, s_retN, s_dro, s_ife, s_par, s_par3, s_tgt, v_var, v_cst, v_glo, v_tup, v_lst, v_tupS, v_lstS, v_mls, v_bin, v_neg, v_not, t_not, v_cmp, t_cmp, v_chn, t_chn, v_isN, t_isN, v_and, v_or, t_and, t_or, v_ife, t_ife, v_idx, v_slc, v_cal, t_cal, v_blt, t_blt, v_isi, t_isi, t_var, v_lrg, v_rpr, v_frz, n_nil, n_cons, f_nil, f_cons, f_star, o_none, o_some, i_seq, i_rng1, i_rng2, i_zip, i_enu, var_0, var_s, cl_call, bAdd, bSub, cLt, cLe, cGt, cGe, cEq, cNe, cEqR, cNeR, nNeg, tBl, tIn, aAbs, aInt, aIntB, aMin, aMax, aLenT, aLenR, aTupT, aTupR, aLstR, aLstT, lq0, lq1, lq2, lq3, lq4, lq5, lq6, isiI, isiB, isiT, isiL, isiN, isiSt, isii, isib, isitt, idxT, idxR, at20, at21, at2m, at30, at31, at32, at3m, at40, at41, at42, at43, at4m, seqT, seqR, sqT, sqR, asT, asR, zipT, zipR, enuR, n_isN, n_isT, n_isI, n_isL, n_isS, d_bnd, g_nm, g_tp, g_nil, g_cons, Option.map_some, Option.map_none, Option.bind_some, if_true, if_false, Bool.false_eq_true, Bool.not_true, Bool.not_false, List.set_cons_zero, List.set_cons_succ, decide_true, decide_false, reduceCtorEq, cNeQ, h1, h2, m1, m2, l2, h21, lt, q, cNeR] <;> rfl⟩
/-- the closed line -/
def lineL (a b c d : Fr × Fr) : List (Fr × Fr) := (bif decide (a = d) then [] else [a]) ++ ((bif decide (b = a) then [] else [b]) ++ ((bif decide (c = b) then [] else [c]) ++ (bif decide (d = c) then [] else [d])))
theorem c_linepart (cl : Cl) (μ : Sto) (a b c d : Fr × Fr) (e0 e1 e2 e4 e5 e6 e7 e9 e10 e11 e12 e13 : Option D) :
    exS cl (.set 3 (.lcm (.nm 14) (.rng1 (.cst (.int 4))) (.some (.cmp .NotEq (.idx (.var 8) (.var 14)) (.idx (.var 8) (.bin .Sub (.var 14) (.cst (.int 1)))))) (.idx (.var 8) (.var 14)) [("at", 14)])) [e0, e1, e2, none, e4, e5, e6, e7, some (.rol [pqD a, pqD b, pqD c, pqD d]), e9, e10, e11, e12, e13, none] μ =
      .ok (.nx [e0, e1, e2, some (.rol ((lineL a b c d).map pqD)), e4, e5, e6, e7, some (.rol [pqD a, pqD b, pqD c, pqD d]), e9, e10, e11, e12, e13, none]) μ := by
  unfold lineL
  cases k1 : decide (a = d) <;> cases k2 : decide (b = a) <;> cases k3 : decide (c = b) <;> cases k4 : decide (d = c)
  all_goals
    simp only [obx, osx, s_rai, fl_ex, if_ex, ec_ex, en_ex, cut_samex, v_hrd, hr_ok, hr_ex, v_isE, t_isE, isE_err, v_fld, fld_err, v_isB, t_isB, isb_b, v_rev, revR, n_isE, or_true, true_or, or_false, false_or, and_true, true_and, and_false, false_and, or_self, and_self, not_false_eq_true, not_true_eq_false, ite_self, lcD_rng, forS_rng, fuel_rng, rng2, rng3, rng4, rngI2, rngI3, rngI4, rng8, rngI8, all0, all1, all2, all3, Bool.and_true, Bool.true_and, Bool.and_false, Bool.false_and, Sto.put_put, ib, ist, ifl, iif, ien, icu, jI, jB, jT, andB, orB, andC, orC, notB, decide_eq_true_eq, cut_same, cut_pp, v_lcm, fuel_itm, lcD_itm, forS_itm, s_for, m_nil, m_cons, mc_some, mc_none, imc, lt_def, yes_def, dt_none, dt_some, w_nil, w_cons, own_nil, own_cons, z_nil, z_nil2, z_cons, e_nil, e_cons, lk0, lk1, lk2, lk3, lk4, ea_nil, ea_cons, ec_nx, ec_ct, ec_bk, ec_rt, iec, List.nil_append, List.cons_append, ob, os, oo, ol, q_cons, q_nil, fl_nx, fl_rt, if_yes, if_no, if_ok, en_rt, en_nx, s_set, s_setLc, s_ret, s_retN, s_dro, s_ife, s_par, s_par3, s_tgt, v_var, v_cst, v_glo, v_tup, v_lst, v_tupS, v_lstS, v_mls, v_bin, v_neg, v_not, t_not, v_cmp, t_cmp, v_chn, t_chn, v_isN, t_isN, v_and, v_or, t_and, t_or, v_ife, t_ife, v_idx, v_slc, v_cal, t_cal, v_blt, t_blt, v_isi, t_isi, t_var, v_lrg, v_rpr, v_frz, n_nil, n_cons, f_nil, f_cons, f_star, o_none, o_some, i_seq, i_rng1, i_rng2, i_zip, i_enu, var_0, var_s, cl_call, bAdd, bSub, cLt, cLe, cGt, cGe, cEq, cNe, cEqR, cNeR, nNeg, tBl, tIn, aAbs, aInt, aIntB, aMin, aMax, aLenT, aLenR, aTupT, aTupR, aLstR, aLstT, lq0, lq1, lq2, lq3, lq4, lq5, lq6, isiI, isiB, isiT, isiL, isiN, isiSt, isii, isib, isitt, idxT, idxR, at20, at21, at2m, at30, at31, at32, at3m, at40, at41, at42, at43, at4m, seqT, seqR, sqT, sqR, asT, asR, zipT, zipR, enuR, n_isN, n_isT, n_isI, n_isL, n_isS, d_bnd, g_nm, g_tp, g_nil, g_cons, Option.map_some, Option.map_none, Option.bind_some, if_true, if_false, Bool.false_eq_true, Bool.not_true, Bool.not_false, List.set_cons_zero, List.set_cons_succ, decide_true, decide_false, reduceCtorEq, cNeQ, k1, k2, k3, k4, Int.reduceSub, cond_true, cond_false, List.map_cons, List.map_nil, List.map_append, List.append_nil]

theorem w_sign (w : W4) : (if (wS w : Str) = "mirrored" then (-1 : Int) else 1) = w.e := by cases w <;> decide +kernel
theorem lineL_sm {a b c d : Fr × Fr} (sa : Sm a) (sb : Sm b) (sc : Sm c) (sd : Sm d) : (lineL a b c d).length ≤ 4 ∧ ∀ p ∈ lineL a b c d, Sm p := by
  unfold lineL
  cases decide (a = d) <;> cases decide (b = a) <;> cases decide (c = b) <;> cases decide (d = c)
  all_goals
    refine ⟨by simp, ?_⟩
    intro p hp
    simp at hp <;> first | (rcases hp with rfl | rfl | rfl | rfl <;> assumption) | (rcases hp with rfl | rfl | rfl <;> assumption) | (rcases hp with rfl | rfl <;> assumption) | (subst hp; assumption) | exact hp.elim
theorem c_right (n p : Nat) (μ : Sto) (t : Pt) (hp : p < μ.sz) (hv : V 0 t) : ∃ μ' : Sto, CN (n + 8) "_law_right" [.obj p] (μ.put p (potL t)) = .ok (.bl true) μ' := by
  obtain ⟨w, f, s, t1, e1, h, v1⟩ := c_leader (n + 4) p 0 μ t hp hv (by decide)
  obtain ⟨a, t2, e2, sa, v2⟩ := c_small (n + 4) p _ μ t1 hp v1 (by decide)
  obtain ⟨b, t3, e3, sb, v3⟩ := c_small (n + 4) p _ μ t2 hp v2 (by decide)
  obtain ⟨c, t4, e4, sc, v4⟩ := c_small (n + 4) p _ μ t3 hp v3 (by decide)
  obtain ⟨d, t5, e5, sd, v5⟩ := c_small (n + 4) p _ μ t4 hp v4 (by decide)
  have ta := c_told (n + 5) a (μ.put p (potL t5)) sa.r (sa.b1.mono (by decide)) (sa.b2.mono (by decide))
  have tb := c_told (n + 5) b (μ.put p (potL t5)) sb.r (sb.b1.mono (by decide)) (sb.b2.mono (by decide))
  have tc := c_told (n + 5) c (μ.put p (potL t5)) sc.r (sc.b1.mono (by decide)) (sc.b2.mono (by decide))
  have td := c_told (n + 5) d (μ.put p (potL t5)) sd.r (sd.b1.mono (by decide)) (sd.b2.mono (by decide))
  have tl := c_tolds (w := w) (n + 2) [a, b, c, d] (μ.put p (potL t5)) h (by
    intro q hq
    simp only [List.mem_cons, List.not_mem_nil, or_false] at hq
    rcases hq with rfl | rfl | rfl | rfl <;> assumption) (by simp)
  simp only [List.map_cons, List.map_nil] at tl
  have la := ld_nm (h.ok (w := w)) sa.nm
  have lb := ld_nm (h.ok (w := w)) sb.nm
  have lc := ld_nm (h.ok (w := w)) sc.nm
  have ba := h.bp (w := w) sa.nm sa.bd
  have bb := h.bp (w := w) sb.nm sb.bd
  have bc := h.bp (w := w) sc.nm sc.bd
  have s1 := c_side (n + 3) _ _ _ (μ.put p (potL t5)) sa.nm sb.nm sc.nm (sa.bd.mono (by decide)) (sb.bd.mono (by decide)) (sc.bd.mono (by decide))
  have s2 := c_side (n + 3) _ _ _ (μ.put p (potL t5)) la lb lc (ba.mono (by decide)) (bb.mono (by decide)) (bc.mono (by decide))
  rw [ld_sgn h.ok sa.nm sb.nm sc.nm, show (ldOf w f s).w = w from rfl] at s2
  obtain ⟨ps, qs⟩ : Shw (.int (w.e * sgn (det (toldP a) (toldP b) (toldP c)))) := (pg_int (by
    have e0 := sgn_abs (det (toldP a) (toldP b) (toldP c))
    show (w.e * sgn (det (toldP a) (toldP b) (toldP c))).natAbs < 2 ^ 1800
    refine le_bd (a := 2) ?_ (by decide)
    rw [Int.natAbs_mul]
    have e1 : w.e.natAbs = 1 := by cases w <;> rfl
    rw [e1]
    omega)).shw (by decide) (by decide)
  have bw : w.e.natAbs < BIG := lt_big (e := 1) (by cases w <;> decide) (by decide)
  obtain ⟨x, t6, e6, x0, x1, v6⟩ := c_take (n + 6) p _ 6 μ t5 hp v5 (by decide) (by decide) (by decide)
  obtain ⟨rsh, qsh, _, _⟩ := frc_spec (t := x) (b := 5) (by decide)
  have shp := rsh.pos
  have she := qsh.eq
  have bsh : BdF (frc x 5) 3 := frc_bd (by decide) (by omega) (by decide)
  have fr := fun ν => c_frac (n + 5) x 5 ν (by decide) (Nat.lt_of_lt_of_le (show (5 : Int).natAbs < 2 ^ 3 by decide) (Nat.pow_le_pow_right (by omega) (by decide)))
  generalize frc x 5 = sh at *
  have sh0 : 0 ≤ sh.1 := by
    rcases Int.lt_or_le sh.1 0 with z | z
    · have := Int.mul_nonneg x0 (Int.le_of_lt shp); omega
    · exact z
  have sh1 : sh.1 ≤ sh.2 := by
    have y := Int.mul_le_mul_of_nonneg_right (show x ≤ 5 by omega) (Int.le_of_lt shp)
    omega
  have w1 := c_between (n + 3) _ _ sh (μ.put p (potL t6)) sa.nm sb.nm rsh sh0 sh1 (sa.bd.mono (by decide)) (sb.bd.mono (by decide)) (bsh.mono (by decide))
  have w2 := c_between (n + 3) _ _ sh (μ.put p (potL t6)) la lb rsh sh0 sh1 (ba.mono (by decide)) (bb.mono (by decide)) (bsh.mono (by decide))
  rw [ld_btw h.ok sa.nm sb.nm (red_ne rsh)] at w2
  have nb := btw_nm sa.nm sb.nm (red_ne rsh)
  have bbt := btw_bd sa.nm sb.nm (red_ne rsh) bsh sa.bd sb.bd
  have w3 := c_ledtold (w := w) (n + 2) _ (μ.put p (potL t6)) h nb (bbt.mono (by decide))
  obtain ⟨pb, qb⟩ : Shw (pD ((ldOf w f s).p (btw (toldP a) (toldP b) sh))) := (pg_pD ((h.bp (w := w) nb bbt).mono (by decide))).shw (by decide) (by decide)
  obtain ⟨f5, f6, f11, mp⟩ := c_meetpart n (μ.put p (potL t6)) w f s h a b c d sa sb sc sd (some (.obj p)) (some (.int w.e)) (some (fD sh)) none none none none none
  have lp := c_linepart ⟨WF, CN (n + 7)⟩ (μ.put p (potL t6)) a b c d (some (.obj p)) (some (.int w.e)) (some (fD sh)) none f5 f6 (some (lD w f s)) (some (.rol [pD (toldP a), pD (toldP b), pD (toldP c), pD (toldP d)])) (some (.rol [pD ((ldOf w f s).p (toldP a)), pD ((ldOf w f s).p (toldP b)), pD ((ldOf w f s).p (toldP c)), pD ((ldOf w f s).p (toldP d))])) f11 none none
  obtain ⟨ll, ls⟩ := lineL_sm sa sb sc sd
  have fin : ∃ t' : Pt, exSs ⟨WF, CN (n + 7)⟩ (b__law_right.drop 8) [some (.obj p), some (.int w.e), some (fD sh), some (.rol ((lineL a b c d).map pqD)), none, f5, f6, some (lD w f s), some (.rol [pqD a, pqD b, pqD c, pqD d]), some (.rol [pD (toldP a), pD (toldP b), pD (toldP c), pD (toldP d)]), some (.rol [pD ((ldOf w f s).p (toldP a)), pD ((ldOf w f s).p (toldP b)), pD ((ldOf w f s).p (toldP c)), pD ((ldOf w f s).p (toldP d))]), f11, none, none, none] (μ.put p (potL t6)) = .ok (.rt (.bl true)) (μ.put p (potL t')) := by
    generalize lineL a b c d = L at *
    match L, ll, ls with
    | [], _, _ =>
      refine ⟨t6, ?_⟩
      unfold b__law_right
      simp only [List.drop_succ_cons, List.drop_zero]
      have lens : ∀ {ν : Sto}, bltD ν .len [.rol []] = some (.int 0, ν) := rfl
      have h33 : ((0 : Int) < 3) := by decide
      rw [q_cons]
      simp only [obx, osx, s_rai, fl_ex, if_ex, ec_ex, en_ex, cut_samex, v_hrd, hr_ok, hr_ex, v_isE, t_isE, isE_err, v_fld, fld_err, v_isB, t_isB, isb_b, v_rev, revR, n_isE, or_true, true_or, or_false, false_or, and_true, true_and, and_false, false_and, or_self, and_self, not_false_eq_true, not_true_eq_false, ite_self, lcD_rng, forS_rng, fuel_rng, rng2, rng3, rng4, rngI2, rngI3, rngI4, rng8, rngI8, all0, all1, all2, all3, Bool.and_true, Bool.true_and, Bool.and_false, Bool.false_and, Sto.put_put, ib, ist, ifl, iif, ien, icu, jI, jB, jT, andB, orB, andC, orC, notB, decide_eq_true_eq, cut_same, cut_pp, v_lcm, fuel_itm, lcD_itm, forS_itm, s_for, m_nil, m_cons, mc_some, mc_none, imc, lt_def, yes_def, dt_none, dt_some, w_nil, w_cons, own_nil, own_cons, z_nil, z_nil2, z_cons, e_nil, e_cons, lk0, lk1, lk2, lk3, lk4, ea_nil, ea_cons, ec_nx, ec_ct, ec_bk, ec_rt, iec, List.nil_append, List.cons_append, ob, os, oo, ol, q_cons, q_nil, fl_nx, fl_rt, if_yes, if_no, if_ok, en_rt, en_nx, s_set, s_setLc, s_ret, s_retN, s_dro, s_ife, s_par, s_par3, s_tgt, v_var, v_cst, v_glo, v_tup, v_lst, v_tupS, v_lstS, v_mls, v_bin, v_neg, v_not, t_not, v_cmp, t_cmp, v_chn, t_chn, v_isN, t_isN, v_and, v_or, t_and, t_or, v_ife, t_ife, v_idx, v_slc, v_cal, t_cal, v_blt, t_blt, v_isi, t_isi, t_var, v_lrg, v_rpr, v_frz, n_nil, n_cons, f_nil, f_cons, f_star, o_none, o_some, i_seq, i_rng1, i_rng2, i_zip, i_enu, var_0, var_s, cl_call, bAdd, bSub, cLt, cLe, cGt, cGe, cEq, cNe, cEqR, cNeR, nNeg, tBl, tIn, aAbs, aInt, aIntB, aMin, aMax, aLenT, aLenR, aTupT, aTupR, aLstR, aLstT, lq0, lq1, lq2, lq3, lq4, lq5, lq6, isiI, isiB, isiT, isiL, isiN, isiSt, isii, isib, isitt, idxT, idxR, at20, at21, at2m, at30, at31, at32, at3m, at40, at41, at42, at43, at4m, seqT, seqR, sqT, sqR, asT, asR, zipT, zipR, enuR, n_isN, n_isT, n_isI, n_isL, n_isS, d_bnd, g_nm, g_tp, g_nil, g_cons, Option.map_some, Option.map_none, Option.bind_some, if_true, if_false, Bool.false_eq_true, Bool.not_true, Bool.not_false, List.set_cons_zero, List.set_cons_succ, decide_true, decide_false, reduceCtorEq, List.map_nil, lens, h33]
    | [x], _, _ =>
      refine ⟨t6, ?_⟩
      unfold b__law_right
      simp only [List.drop_succ_cons, List.drop_zero]
      have lens : ∀ {ν : Sto}, bltD ν .len [.rol [pqD x]] = some (.int 1, ν) := rfl
      have h33 : ((1 : Int) < 3) := by decide
      rw [q_cons]
      simp only [obx, osx, s_rai, fl_ex, if_ex, ec_ex, en_ex, cut_samex, v_hrd, hr_ok, hr_ex, v_isE, t_isE, isE_err, v_fld, fld_err, v_isB, t_isB, isb_b, v_rev, revR, n_isE, or_true, true_or, or_false, false_or, and_true, true_and, and_false, false_and, or_self, and_self, not_false_eq_true, not_true_eq_false, ite_self, lcD_rng, forS_rng, fuel_rng, rng2, rng3, rng4, rngI2, rngI3, rngI4, rng8, rngI8, all0, all1, all2, all3, Bool.and_true, Bool.true_and, Bool.and_false, Bool.false_and, Sto.put_put, ib, ist, ifl, iif, ien, icu, jI, jB, jT, andB, orB, andC, orC, notB, decide_eq_true_eq, cut_same, cut_pp, v_lcm, fuel_itm, lcD_itm, forS_itm, s_for, m_nil, m_cons, mc_some, mc_none, imc, lt_def, yes_def, dt_none, dt_some, w_nil, w_cons, own_nil, own_cons, z_nil, z_nil2, z_cons, e_nil, e_cons, lk0, lk1, lk2, lk3, lk4, ea_nil, ea_cons, ec_nx, ec_ct, ec_bk, ec_rt, iec, List.nil_append, List.cons_append, ob, os, oo, ol, q_cons, q_nil, fl_nx, fl_rt, if_yes, if_no, if_ok, en_rt, en_nx, s_set, s_setLc, s_ret, s_retN, s_dro, s_ife, s_par, s_par3, s_tgt, v_var, v_cst, v_glo, v_tup, v_lst, v_tupS, v_lstS, v_mls, v_bin, v_neg, v_not, t_not, v_cmp, t_cmp, v_chn, t_chn, v_isN, t_isN, v_and, v_or, t_and, t_or, v_ife, t_ife, v_idx, v_slc, v_cal, t_cal, v_blt, t_blt, v_isi, t_isi, t_var, v_lrg, v_rpr, v_frz, n_nil, n_cons, f_nil, f_cons, f_star, o_none, o_some, i_seq, i_rng1, i_rng2, i_zip, i_enu, var_0, var_s, cl_call, bAdd, bSub, cLt, cLe, cGt, cGe, cEq, cNe, cEqR, cNeR, nNeg, tBl, tIn, aAbs, aInt, aIntB, aMin, aMax, aLenT, aLenR, aTupT, aTupR, aLstR, aLstT, lq0, lq1, lq2, lq3, lq4, lq5, lq6, isiI, isiB, isiT, isiL, isiN, isiSt, isii, isib, isitt, idxT, idxR, at20, at21, at2m, at30, at31, at32, at3m, at40, at41, at42, at43, at4m, seqT, seqR, sqT, sqR, asT, asR, zipT, zipR, enuR, n_isN, n_isT, n_isI, n_isL, n_isS, d_bnd, g_nm, g_tp, g_nil, g_cons, Option.map_some, Option.map_none, Option.bind_some, if_true, if_false, Bool.false_eq_true, Bool.not_true, Bool.not_false, List.set_cons_zero, List.set_cons_succ, decide_true, decide_false, reduceCtorEq, List.map_cons, List.map_nil, lens, h33]
    | [x, y], _, _ =>
      refine ⟨t6, ?_⟩
      unfold b__law_right
      simp only [List.drop_succ_cons, List.drop_zero]
      have lens : ∀ {ν : Sto}, bltD ν .len [.rol [pqD x, pqD y]] = some (.int 2, ν) := rfl
      have h33 : ((2 : Int) < 3) := by decide
      rw [q_cons]
      simp only [obx, osx, s_rai, fl_ex, if_ex, ec_ex, en_ex, cut_samex, v_hrd, hr_ok, hr_ex, v_isE, t_isE, isE_err, v_fld, fld_err, v_isB, t_isB, isb_b, v_rev, revR, n_isE, or_true, true_or, or_false, false_or, and_true, true_and, and_false, false_and, or_self, and_self, not_false_eq_true, not_true_eq_false, ite_self, lcD_rng, forS_rng, fuel_rng, rng2, rng3, rng4, rngI2, rngI3, rngI4, rng8, rngI8, all0, all1, all2, all3, Bool.and_true, Bool.true_and, Bool.and_false, Bool.false_and, Sto.put_put, ib, ist, ifl, iif, ien, icu, jI, jB, jT, andB, orB, andC, orC, notB, decide_eq_true_eq, cut_same, cut_pp, v_lcm, fuel_itm, lcD_itm, forS_itm, s_for, m_nil, m_cons, mc_some, mc_none, imc, lt_def, yes_def, dt_none, dt_some, w_nil, w_cons, own_nil, own_cons, z_nil, z_nil2, z_cons, e_nil, e_cons, lk0, lk1, lk2, lk3, lk4, ea_nil, ea_cons, ec_nx, ec_ct, ec_bk, ec_rt, iec, List.nil_append, List.cons_append, ob, os, oo, ol, q_cons, q_nil, fl_nx, fl_rt, if_yes, if_no, if_ok, en_rt, en_nx, s_set, s_setLc, s_ret, s_retN, s_dro, s_ife, s_par, s_par3, s_tgt, v_var, v_cst, v_glo, v_tup, v_lst, v_tupS, v_lstS, v_mls, v_bin, v_neg, v_not, t_not, v_cmp, t_cmp, v_chn, t_chn, v_isN, t_isN, v_and, v_or, t_and, t_or, v_ife, t_ife, v_idx, v_slc, v_cal, t_cal, v_blt, t_blt, v_isi, t_isi, t_var, v_lrg, v_rpr, v_frz, n_nil, n_cons, f_nil, f_cons, f_star, o_none, o_some, i_seq, i_rng1, i_rng2, i_zip, i_enu, var_0, var_s, cl_call, bAdd, bSub, cLt, cLe, cGt, cGe, cEq, cNe, cEqR, cNeR, nNeg, tBl, tIn, aAbs, aInt, aIntB, aMin, aMax, aLenT, aLenR, aTupT, aTupR, aLstR, aLstT, lq0, lq1, lq2, lq3, lq4, lq5, lq6, isiI, isiB, isiT, isiL, isiN, isiSt, isii, isib, isitt, idxT, idxR, at20, at21, at2m, at30, at31, at32, at3m, at40, at41, at42, at43, at4m, seqT, seqR, sqT, sqR, asT, asR, zipT, zipR, enuR, n_isN, n_isT, n_isI, n_isL, n_isS, d_bnd, g_nm, g_tp, g_nil, g_cons, Option.map_some, Option.map_none, Option.bind_some, if_true, if_false, Bool.false_eq_true, Bool.not_true, Bool.not_false, List.set_cons_zero, List.set_cons_succ, decide_true, decide_false, reduceCtorEq, List.map_cons, List.map_nil, lens, h33]
    | [x, y, z], _, hs => exact tail3 n p _ μ t6 hp v6 (by decide) w f s h x y z (hs x (by simp)) (hs y (by simp)) (hs z (by simp)) _ _ _ _ _ _ _ _ _ _ _ _
    | [x, y, z, v], _, hs => exact tail4 n p _ μ t6 hp v6 (by decide) w f s h x y z v (hs x (by simp)) (hs y (by simp)) (hs z (by simp)) (hs v (by simp)) _ _ _ _ _ _ _ _ _ _ _ _
    | _ :: _ :: _ :: _ :: _ :: _, hl, _ => simp at hl
  obtain ⟨t', fin⟩ := fin
  refine ⟨μ.put p (potL t'), ?_⟩
  rw [st__law_right]
  unfold b__law_right at fin ⊢
  simp only [List.drop_succ_cons, List.drop_zero] at fin
  refine stp (by simp only [obx, osx, s_rai, fl_ex, if_ex, ec_ex, en_ex, cut_samex, v_hrd, hr_ok, hr_ex, v_isE, t_isE, isE_err, v_fld, fld_err, v_isB, t_isB, isb_b, v_rev, revR, n_isE, or_true, true_or, or_false, false_or, and_true, true_and, and_false, false_and, or_self, and_self, not_false_eq_true, not_true_eq_false, ite_self, lcD_rng, forS_rng, fuel_rng, rng2, rng3, rng4, rngI2, rngI3, rngI4, rng8, rngI8, all0, all1, all2, all3, Bool.and_true, Bool.true_and, Bool.and_false, Bool.false_and, Sto.put_put, ib, ist, ifl, iif, ien, icu, jI, jB, jT, andB, orB, andC, orC, notB, decide_eq_true_eq, cut_same, cut_pp, v_lcm, fuel_itm, lcD_itm, forS_itm, s_for, m_nil, m_cons, mc_some, mc_none, imc, lt_def, yes_def, dt_none, dt_some, w_nil, w_cons, own_nil, own_cons, z_nil, z_nil2, z_cons, e_nil, e_cons, lk0, lk1, lk2, lk3, lk4, ea_nil, ea_cons, ec_nx, ec_ct, ec_bk, ec_rt, iec, List.nil_append, List.cons_append, ob, os, oo, ol, q_cons, q_nil, fl_nx, fl_rt, if_yes, if_no, if_ok, en_rt, en_nx, s_set, s_setLc, s_ret, s_retN, s_dro, s_ife, s_par, s_par3, s_tgt, v_var, v_cst, v_glo, v_tup, v_lst, v_tupS, v_lstS, v_mls, v_bin, v_neg, v_not, t_not, v_cmp, t_cmp, v_chn, t_chn, v_isN, t_isN, v_and, v_or, t_and, t_or, v_ife, t_ife, v_idx, v_slc, v_cal, t_cal, v_blt, t_blt, v_isi, t_isi, t_var, v_lrg, v_rpr, v_frz, n_nil, n_cons, f_nil, f_cons, f_star, o_none, o_some, i_seq, i_rng1, i_rng2, i_zip, i_enu, var_0, var_s, cl_call, bAdd, bSub, cLt, cLe, cGt, cGe, cEq, cNe, cEqR, cNeR, nNeg, tBl, tIn, aAbs, aInt, aIntB, aMin, aMax, aLenT, aLenR, aTupT, aTupR, aLstR, aLstT, lq0, lq1, lq2, lq3, lq4, lq5, lq6, isiI, isiB, isiT, isiL, isiN, isiSt, isii, isib, isitt, idxT, idxR, at20, at21, at2m, at30, at31, at32, at3m, at40, at41, at42, at43, at4m, seqT, seqR, sqT, sqR, asT, asR, zipT, zipR, enuR, n_isN, n_isT, n_isI, n_isL, n_isS, d_bnd, g_nm, g_tp, g_nil, g_cons, Option.map_some, Option.map_none, Option.bind_some, if_true, if_false, Bool.false_eq_true, Bool.not_true, Bool.not_false, List.set_cons_zero, List.set_cons_succ, decide_true, decide_false, reduceCtorEq, e1, e2, e3, e4, e5] <;> rfl) ?_
  refine stp (by simp only [obx, osx, s_rai, fl_ex, if_ex, ec_ex, en_ex, cut_samex, v_hrd, hr_ok, hr_ex, v_isE, t_isE, isE_err, v_fld, fld_err, v_isB, t_isB, isb_b, v_rev, revR, n_isE, or_true, true_or, or_false, false_or, and_true, true_and, and_false, false_and, or_self, and_self, not_false_eq_true, not_true_eq_false, ite_self, lcD_rng, forS_rng, fuel_rng, rng2, rng3, rng4, rngI2, rngI3, rngI4, rng8, rngI8, all0, all1, all2, all3, Bool.and_true, Bool.true_and, Bool.and_false, Bool.false_and, Sto.put_put, ib, ist, ifl, iif, ien, icu, jI, jB, jT, andB, orB, andC, orC, notB, decide_eq_true_eq, cut_same, cut_pp, v_lcm, fuel_itm, lcD_itm, forS_itm, s_for, m_nil, m_cons, mc_some, mc_none, imc, lt_def, yes_def, dt_none, dt_some, w_nil, w_cons, own_nil, own_cons, z_nil, z_nil2, z_cons, e_nil, e_cons, lk0, lk1, lk2, lk3, lk4, ea_nil, ea_cons, ec_nx, ec_ct, ec_bk, ec_rt, iec, List.nil_append, List.cons_append, ob, os, oo, ol, q_cons, q_nil, fl_nx, fl_rt, if_yes, if_no, if_ok, en_rt, en_nx, s_set, s_setLc, s_ret, s_retN, s_dro, s_ife, s_par, s_par3, s_tgt, v_var, v_cst, v_glo, v_tup, v_lst, v_tupS, v_lstS, v_mls, v_bin, v_neg, v_not, t_not, v_cmp, t_cmp, v_chn, t_chn, v_isN, t_isN, v_and, v_or, t_and, t_or, v_ife, t_ife, v_idx, v_slc, v_cal, t_cal, v_blt, t_blt, v_isi, t_isi, t_var, v_lrg, v_rpr, v_frz, n_nil, n_cons, f_nil, f_cons, f_star, o_none, o_some, i_seq, i_rng1, i_rng2, i_zip, i_enu, var_0, var_s, cl_call, bAdd, bSub, cLt, cLe, cGt, cGe, cEq, cNe, cEqR, cNeR, nNeg, tBl, tIn, aAbs, aInt, aIntB, aMin, aMax, aLenT, aLenR, aTupT, aTupR, aLstR, aLstT, lq0, lq1, lq2, lq3, lq4, lq5, lq6, isiI, isiB, isiT, isiL, isiN, isiSt, isii, isib, isitt, idxT, idxR, at20, at21, at2m, at30, at31, at32, at3m, at40, at41, at42, at43, at4m, seqT, seqR, sqT, sqR, asT, asR, zipT, zipR, enuR, n_isN, n_isT, n_isI, n_isL, n_isS, d_bnd, g_nm, g_tp, g_nil, g_cons, Option.map_some, Option.map_none, Option.bind_some, if_true, if_false, Bool.false_eq_true, Bool.not_true, Bool.not_false, List.set_cons_zero, List.set_cons_succ, decide_true, decide_false, reduceCtorEq, ta, tb, tc, td, tl] <;> rfl) ?_
  have li : ∀ ν : Sto, idxD ν (lD w f s) (.int 0) = some (.str (wS w)) := fun _ => rfl
  refine stp (by simp only [obx, osx, s_rai, fl_ex, if_ex, ec_ex, en_ex, cut_samex, v_hrd, hr_ok, hr_ex, v_isE, t_isE, isE_err, v_fld, fld_err, v_isB, t_isB, isb_b, v_rev, revR, n_isE, or_true, true_or, or_false, false_or, and_true, true_and, and_false, false_and, or_self, and_self, not_false_eq_true, not_true_eq_false, ite_self, lcD_rng, forS_rng, fuel_rng, rng2, rng3, rng4, rngI2, rngI3, rngI4, rng8, rngI8, all0, all1, all2, all3, Bool.and_true, Bool.true_and, Bool.and_false, Bool.false_and, Sto.put_put, ib, ist, ifl, iif, ien, icu, jI, jB, jT, andB, orB, andC, orC, notB, decide_eq_true_eq, cut_same, cut_pp, v_lcm, fuel_itm, lcD_itm, forS_itm, s_for, m_nil, m_cons, mc_some, mc_none, imc, lt_def, yes_def, dt_none, dt_some, w_nil, w_cons, own_nil, own_cons, z_nil, z_nil2, z_cons, e_nil, e_cons, lk0, lk1, lk2, lk3, lk4, ea_nil, ea_cons, ec_nx, ec_ct, ec_bk, ec_rt, iec, List.nil_append, List.cons_append, ob, os, oo, ol, q_cons, q_nil, fl_nx, fl_rt, if_yes, if_no, if_ok, en_rt, en_nx, s_set, s_setLc, s_ret, s_retN, s_dro, s_ife, s_par, s_par3, s_tgt, v_var, v_cst, v_glo, v_tup, v_lst, v_tupS, v_lstS, v_mls, v_bin, v_neg, v_not, t_not, v_cmp, t_cmp, v_chn, t_chn, v_isN, t_isN, v_and, v_or, t_and, t_or, v_ife, t_ife, v_idx, v_slc, v_cal, t_cal, v_blt, t_blt, v_isi, t_isi, t_var, v_lrg, v_rpr, v_frz, n_nil, n_cons, f_nil, f_cons, f_star, o_none, o_some, i_seq, i_rng1, i_rng2, i_zip, i_enu, var_0, var_s, cl_call, bAdd, bSub, cLt, cLe, cGt, cGe, cEq, cNe, cEqR, cNeR, nNeg, tBl, tIn, aAbs, aInt, aIntB, aMin, aMax, aLenT, aLenR, aTupT, aTupR, aLstR, aLstT, lq0, lq1, lq2, lq3, lq4, lq5, lq6, isiI, isiB, isiT, isiL, isiN, isiSt, isii, isib, isitt, idxT, idxR, at20, at21, at2m, at30, at31, at32, at3m, at40, at41, at42, at43, at4m, seqT, seqR, sqT, sqR, asT, asR, zipT, zipR, enuR, n_isN, n_isT, n_isI, n_isL, n_isS, d_bnd, g_nm, g_tp, g_nil, g_cons, Option.map_some, Option.map_none, Option.bind_some, if_true, if_false, Bool.false_eq_true, Bool.not_true, Bool.not_false, List.set_cons_zero, List.set_cons_succ, decide_true, decide_false, reduceCtorEq, li, cEqS, w_sign] <;> rfl) ?_
  refine stp (by simp (disch := first | assumption | exact sgn_b _) only [obx, osx, s_rai, fl_ex, if_ex, ec_ex, en_ex, cut_samex, v_hrd, hr_ok, hr_ex, v_isE, t_isE, isE_err, v_fld, fld_err, v_isB, t_isB, isb_b, v_rev, revR, n_isE, or_true, true_or, or_false, false_or, and_true, true_and, and_false, false_and, or_self, and_self, not_false_eq_true, not_true_eq_false, ite_self, lcD_rng, forS_rng, fuel_rng, rng2, rng3, rng4, rngI2, rngI3, rngI4, rng8, rngI8, all0, all1, all2, all3, Bool.and_true, Bool.true_and, Bool.and_false, Bool.false_and, Sto.put_put, ib, ist, ifl, iif, ien, icu, jI, jB, jT, andB, orB, andC, orC, notB, decide_eq_true_eq, cut_same, cut_pp, v_lcm, fuel_itm, lcD_itm, forS_itm, s_for, m_nil, m_cons, mc_some, mc_none, imc, lt_def, yes_def, dt_none, dt_some, w_nil, w_cons, own_nil, own_cons, z_nil, z_nil2, z_cons, e_nil, e_cons, lk0, lk1, lk2, lk3, lk4, ea_nil, ea_cons, ec_nx, ec_ct, ec_bk, ec_rt, iec, List.nil_append, List.cons_append, ob, os, oo, ol, q_cons, q_nil, fl_nx, fl_rt, if_yes, if_no, if_ok, en_rt, en_nx, s_set, s_setLc, s_ret, s_retN, s_dro, s_ife, s_par, s_par3, s_tgt, v_var, v_cst, v_glo, v_tup, v_lst, v_tupS, v_lstS, v_mls, v_bin, v_neg, v_not, t_not, v_cmp, t_cmp, v_chn, t_chn, v_isN, t_isN, v_and, v_or, t_and, t_or, v_ife, t_ife, v_idx, v_slc, v_cal, t_cal, v_blt, t_blt, v_isi, t_isi, t_var, v_lrg, v_rpr, v_frz, n_nil, n_cons, f_nil, f_cons, f_star, o_none, o_some, i_seq, i_rng1, i_rng2, i_zip, i_enu, var_0, var_s, cl_call, bAdd, bSub, cLt, cLe, cGt, cGe, cEq, cNe, cEqR, cNeR, nNeg, tBl, tIn, aAbs, aInt, aIntB, aMin, aMax, aLenT, aLenR, aTupT, aTupR, aLstR, aLstT, lq0, lq1, lq2, lq3, lq4, lq5, lq6, isiI, isiB, isiT, isiL, isiN, isiSt, isii, isib, isitt, idxT, idxR, at20, at21, at2m, at30, at31, at32, at3m, at40, at41, at42, at43, at4m, seqT, seqR, sqT, sqR, asT, asR, zipT, zipR, enuR, n_isN, n_isT, n_isI, n_isL, n_isS, d_bnd, g_nm, g_tp, g_nil, g_cons, Option.map_some, Option.map_none, Option.bind_some, if_true, if_false, Bool.false_eq_true, Bool.not_true, Bool.not_false, List.set_cons_zero, List.set_cons_succ, decide_true, decide_false, reduceCtorEq, s1, s2, bMul, qs, cNeR] <;> rfl) ?_
  refine stp (by simp only [obx, osx, s_rai, fl_ex, if_ex, ec_ex, en_ex, cut_samex, v_hrd, hr_ok, hr_ex, v_isE, t_isE, isE_err, v_fld, fld_err, v_isB, t_isB, isb_b, v_rev, revR, n_isE, or_true, true_or, or_false, false_or, and_true, true_and, and_false, false_and, or_self, and_self, not_false_eq_true, not_true_eq_false, ite_self, lcD_rng, forS_rng, fuel_rng, rng2, rng3, rng4, rngI2, rngI3, rngI4, rng8, rngI8, all0, all1, all2, all3, Bool.and_true, Bool.true_and, Bool.and_false, Bool.false_and, Sto.put_put, ib, ist, ifl, iif, ien, icu, jI, jB, jT, andB, orB, andC, orC, notB, decide_eq_true_eq, cut_same, cut_pp, v_lcm, fuel_itm, lcD_itm, forS_itm, s_for, m_nil, m_cons, mc_some, mc_none, imc, lt_def, yes_def, dt_none, dt_some, w_nil, w_cons, own_nil, own_cons, z_nil, z_nil2, z_cons, e_nil, e_cons, lk0, lk1, lk2, lk3, lk4, ea_nil, ea_cons, ec_nx, ec_ct, ec_bk, ec_rt, iec, List.nil_append, List.cons_append, ob, os, oo, ol, q_cons, q_nil, fl_nx, fl_rt, if_yes, if_no, if_ok, en_rt, en_nx, s_set, s_setLc, s_ret, s_retN, s_dro, s_ife, s_par, s_par3, s_tgt, v_var, v_cst, v_glo, v_tup, v_lst, v_tupS, v_lstS, v_mls, v_bin, v_neg, v_not, t_not, v_cmp, t_cmp, v_chn, t_chn, v_isN, t_isN, v_and, v_or, t_and, t_or, v_ife, t_ife, v_idx, v_slc, v_cal, t_cal, v_blt, t_blt, v_isi, t_isi, t_var, v_lrg, v_rpr, v_frz, n_nil, n_cons, f_nil, f_cons, f_star, o_none, o_some, i_seq, i_rng1, i_rng2, i_zip, i_enu, var_0, var_s, cl_call, bAdd, bSub, cLt, cLe, cGt, cGe, cEq, cNe, cEqR, cNeR, nNeg, tBl, tIn, aAbs, aInt, aIntB, aMin, aMax, aLenT, aLenR, aTupT, aTupR, aLstR, aLstT, lq0, lq1, lq2, lq3, lq4, lq5, lq6, isiI, isiB, isiT, isiL, isiN, isiSt, isii, isib, isitt, idxT, idxR, at20, at21, at2m, at30, at31, at32, at3m, at40, at41, at42, at43, at4m, seqT, seqR, sqT, sqR, asT, asR, zipT, zipR, enuR, n_isN, n_isT, n_isI, n_isL, n_isS, d_bnd, g_nm, g_tp, g_nil, g_cons, Option.map_some, Option.map_none, Option.bind_some, if_true, if_false, Bool.false_eq_true, Bool.not_true, Bool.not_false, List.set_cons_zero, List.set_cons_succ, decide_true, decide_false, reduceCtorEq, e6, fr] <;> rfl) ?_
  refine stp (by simp only [obx, osx, s_rai, fl_ex, if_ex, ec_ex, en_ex, cut_samex, v_hrd, hr_ok, hr_ex, v_isE, t_isE, isE_err, v_fld, fld_err, v_isB, t_isB, isb_b, v_rev, revR, n_isE, or_true, true_or, or_false, false_or, and_true, true_and, and_false, false_and, or_self, and_self, not_false_eq_true, not_true_eq_false, ite_self, lcD_rng, forS_rng, fuel_rng, rng2, rng3, rng4, rngI2, rngI3, rngI4, rng8, rngI8, all0, all1, all2, all3, Bool.and_true, Bool.true_and, Bool.and_false, Bool.false_and, Sto.put_put, ib, ist, ifl, iif, ien, icu, jI, jB, jT, andB, orB, andC, orC, notB, decide_eq_true_eq, cut_same, cut_pp, v_lcm, fuel_itm, lcD_itm, forS_itm, s_for, m_nil, m_cons, mc_some, mc_none, imc, lt_def, yes_def, dt_none, dt_some, w_nil, w_cons, own_nil, own_cons, z_nil, z_nil2, z_cons, e_nil, e_cons, lk0, lk1, lk2, lk3, lk4, ea_nil, ea_cons, ec_nx, ec_ct, ec_bk, ec_rt, iec, List.nil_append, List.cons_append, ob, os, oo, ol, q_cons, q_nil, fl_nx, fl_rt, if_yes, if_no, if_ok, en_rt, en_nx, s_set, s_setLc, s_ret, s_retN, s_dro, s_ife, s_par, s_par3, s_tgt, v_var, v_cst, v_glo, v_tup, v_lst, v_tupS, v_lstS, v_mls, v_bin, v_neg, v_not, t_not, v_cmp, t_cmp, v_chn, t_chn, v_isN, t_isN, v_and, v_or, t_and, t_or, v_ife, t_ife, v_idx, v_slc, v_cal, t_cal, v_blt, t_blt, v_isi, t_isi, t_var, v_lrg, v_rpr, v_frz, n_nil, n_cons, f_nil, f_cons, f_star, o_none, o_some, i_seq, i_rng1, i_rng2, i_zip, i_enu, var_0, var_s, cl_call, bAdd, bSub, cLt, cLe, cGt, cGe, cEq, cNe, cEqR, cNeR, nNeg, tBl, tIn, aAbs, aInt, aIntB, aMin, aMax, aLenT, aLenR, aTupT, aTupR, aLstR, aLstT, lq0, lq1, lq2, lq3, lq4, lq5, lq6, isiI, isiB, isiT, isiL, isiN, isiSt, isii, isib, isitt, idxT, idxR, at20, at21, at2m, at30, at31, at32, at3m, at40, at41, at42, at43, at4m, seqT, seqR, sqT, sqR, asT, asR, zipT, zipR, enuR, n_isN, n_isT, n_isI, n_isL, n_isS, d_bnd, g_nm, g_tp, g_nil, g_cons, Option.map_some, Option.map_none, Option.bind_some, if_true, if_false, Bool.false_eq_true, Bool.not_true, Bool.not_false, List.set_cons_zero, List.set_cons_succ, decide_true, decide_false, reduceCtorEq, w1, w2, w3, qb, cNeR] <;> rfl) ?_
  refine stp mp ?_
  refine stp lp ?_
  rw [fin]
  simp only [obx, osx, s_rai, fl_ex, if_ex, ec_ex, en_ex, cut_samex, v_hrd, hr_ok, hr_ex, v_isE, t_isE, isE_err, v_fld, fld_err, v_isB, t_isB, isb_b, v_rev, revR, n_isE, or_true, true_or, or_false, false_or, and_true, true_and, and_false, false_and, or_self, and_self, not_false_eq_true, not_true_eq_false, ite_self, lcD_rng, forS_rng, fuel_rng, rng2, rng3, rng4, rngI2, rngI3, rngI4, rng8, rngI8, all0, all1, all2, all3, Bool.and_true, Bool.true_and, Bool.and_false, Bool.false_and, Sto.put_put, ib, ist, ifl, iif, ien, icu, jI, jB, jT, andB, orB, andC, orC, notB, decide_eq_true_eq, cut_same, cut_pp, v_lcm, fuel_itm, lcD_itm, forS_itm, s_for, m_nil, m_cons, mc_some, mc_none, imc, lt_def, yes_def, dt_none, dt_some, w_nil, w_cons, own_nil, own_cons, z_nil, z_nil2, z_cons, e_nil, e_cons, lk0, lk1, lk2, lk3, lk4, ea_nil, ea_cons, ec_nx, ec_ct, ec_bk, ec_rt, iec, List.nil_append, List.cons_append, ob, os, oo, ol, q_cons, q_nil, fl_nx, fl_rt, if_yes, if_no, if_ok, en_rt, en_nx, s_set, s_setLc, s_ret, s_retN, s_dro, s_ife, s_par, s_par3, s_tgt, v_var, v_cst, v_glo, v_tup, v_lst, v_tupS, v_lstS, v_mls, v_bin, v_neg, v_not, t_not, v_cmp, t_cmp, v_chn, t_chn, v_isN, t_isN, v_and, v_or, t_and, t_or, v_ife, t_ife, v_idx, v_slc, v_cal, t_cal, v_blt, t_blt, v_isi, t_isi, t_var, v_lrg, v_rpr, v_frz, n_nil, n_cons, f_nil, f_cons, f_star, o_none, o_some, i_seq, i_rng1, i_rng2, i_zip, i_enu, var_0, var_s, cl_call, bAdd, bSub, cLt, cLe, cGt, cGe, cEq, cNe, cEqR, cNeR, nNeg, tBl, tIn, aAbs, aInt, aIntB, aMin, aMax, aLenT, aLenR, aTupT, aTupR, aLstR, aLstT, lq0, lq1, lq2, lq3, lq4, lq5, lq6, isiI, isiB, isiT, isiL, isiN, isiSt, isii, isib, isitt, idxT, idxR, at20, at21, at2m, at30, at31, at32, at3m, at40, at41, at42, at43, at4m, seqT, seqR, sqT, sqR, asT, asR, zipT, zipR, enuR, n_isN, n_isT, n_isI, n_isL, n_isS, d_bnd, g_nm, g_tp, g_nil, g_cons, Option.map_some, Option.map_none, Option.bind_some, if_true, if_false, Bool.false_eq_true, Bool.not_true, Bool.not_false, List.set_cons_zero, List.set_cons_succ, decide_true, decide_false, reduceCtorEq]
def KK : Nat := 9
theorem yes (ns : List Int) : ∃ μ', callN (Pd.map Dp.df) WF KK "law" [.rol (ns.map .int)] μ0 = .ok (.bl true) μ' :=
  yes_cells 7 2 ns (by decide) (by decide) rfl fun μ p s hp h => c_right 0 p μ s hp h
end Rf


set_option Elab.async false
set_option linter.all false
set_option maxRecDepth 100000
set_option maxHeartbeats 0
/-! the head of k05 -/
namespace Rf
open PySem PySem.Spec PyProof.Rows L2
abbrev RR : PySem.W.OpenRow := PySem.W.OpenLaw.row PySem.Challenge.rw_ringsorways_k05_whole_the_same_moved_tur
abbrev fa : List He.Fa := faOf gi Pd ++ hdGlo tx
abbrev fn : List He.DefD := fnOfT tx Pd
abbrev exx : PySem.W.Frag → Bool := exOf PySem.Challenge.rw_ringsorways_k05_whole_the_same_moved_tur.prog.main.file gi.ers
abbrev hk : PySem.W.Hook := hookY 4 fa fn tx exx
def obT (s : PySem.W.SharedT) : AlY := obsY 4 fa fn exx (HandSHeadRun.getT s)
theorem ob_eq (s : PySem.W.SharedT) : obT s = hk.obs s.abs := obsY_eq (HandSHeadRun.getT_eq s)
def loose : List Str := (["__name__", "PAIR", "is_whole", "is_tuple", "common", "is_fraction", "is_share", "FenceError", "BadPoint", "BadShare", "Same", "BadRing", "OnLine", "TRIPLE_points", "is_point", "point_at", "is_ahead", "NONE", "CROSS", "TOUCH", "ALONG", "TRIPLE_plane", "check_points", "is_closed_line", "line_through", "line_side", "lies_on", "is_out", "overlap_of", "crossing_of", "is_over", "is_odd_about", "side", "meet", "between", "inside", "_law_pot", "_law_take", "_law_of", "_law_cells", "_law_heard", "_law_frac_common", "_law_frac", "_law_frac_plus", "_law_frac_times", "_law_point_own", "_law_point_told", "_law_leader", "_law_led_point", "_law_small_point", "_law_told", "_law_led_told", "_law_inside", "_law_right"] : List String).map Str.ofString
theorem run (w : World) : HandSHeadRun.RunEq RR (PySem.W.view RR.prog [58]) hk obT 6000 loose w := by
  intro os
  kernel_rfl
end Rf


set_option Elab.async false
set_option linter.all false
set_option maxRecDepth 100000
set_option maxHeartbeats 0
/-! the end of k05 -/
open PySem PySem.W PySem.Calls PyProof.Rows
theorem PySem.Challenge.cw_ringsorways_k05_whole_the_same_moved_tur_holds : PySem.Challenge.rw_ringsorways_k05_whole_the_same_moved_tur.Holds := by
  w_on; o_law
  refine HandSHeadRun.head_any (r := OpenLaw.row PySem.Challenge.rw_ringsorways_k05_whole_the_same_moved_tur) (q := view (OpenLaw.row PySem.Challenge.rw_ringsorways_k05_whole_the_same_moved_tur).prog [58]) (H := Rf.hk) (ob := Rf.obT) (M := 6000) (loose := Rf.loose) (d := HandSHeadRun.topDef (OpenLaw.row PySem.Challenge.rw_ringsorways_k05_whole_the_same_moved_tur).prog 58) (kwd := []) Rf.ob_eq
    (by kernel_rfl) (fun s => by kernel_rfl) Rf.run (by kernel_rfl) (by kernel_rfl) (by kernel_rfl) (by rfl) (by first | assumption | decide +kernel) (by decide +kernel) ⟨rfl, rfl, rfl, rfl, rfl, by decide +kernel⟩ ?hw ?hc
  case hw => w_witness2
  case hc =>
    refine Rf.law_end (l := PySem.Challenge.rw_ringsorways_k05_whole_the_same_moved_tur) (n := 63) (k := Rf.KK) (gi := Rf.gi) (Pd := Rf.Pd) (wf := Rf.WF) (x := "script") rfl (by decide) (by kernel_rfl) ⟨rfl, by decide, by decide⟩ ?Y ⟨Rf.d_law, by unfold Rf.Pd; simp, by kernel_rfl, rfl⟩ ?yes
    case Y =>
      intro w mg fa h Y G hmg
      obtain ⟨K, kin, c⟩ := Y
      exact ⟨K, kin, Rf.wd_of kin G c Rf.tx_ok Rf.ok_all Rf.bd_all Rf.gi_all Rf.nd_all Rf.con_all rfl⟩
    case yes =>
      intro ns hl hb
      have e : (HandSHeadRun.topDef (OpenLaw.row PySem.Challenge.rw_ringsorways_k05_whole_the_same_moved_tur).prog 58).name = ("law" : PySem.Str) := by kernel_rfl
      rw [e]
      exact Rf.yes ns


