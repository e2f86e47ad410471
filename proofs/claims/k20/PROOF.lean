import PyProof.Rows.All
import Wide.All
import OpenK.AllK
import Wide.FinOn
import HandS.ForMost
import HandS.ForExc
import HandS.ExcInit
import HandS.ExcField
import KE.KExcSuper
import HandS.Star
import HandS.IsInst
import HandS.Style
import HandS.OwnEq
import KE.KOpsOwn
import PyProof.AutoFloatOps
import HandS.Evl
import PySem.Challenge.RW_loopsize_k20_places_in_least_form
set_option Elab.async false
set_option linter.all false
set_option maxRecDepth 100000
set_option maxHeartbeats 4000000
namespace PySem
namespace ErrX
open PySem.W PySem.Calls PyProof.Rows PySem.HandSPX L2

/-- self.f = f; .. -/
inductive Sets : List Str → List Stmt → Prop
  | nil : Sets [] []
  | cons {f : Str} {fs : List Str} {rest : List Stmt} {q1 q2 q3 q4 : Pos} : Sets fs rest → Sets (f :: fs) (.Assign [.Attribute (.Name "self" q1) f q2] (.Name f q3) q4 :: rest)

/-- super().__init__('..') first, then the fields -/
def SupBody (fs : List Str) (body : List Stmt) : Prop := ∃ (p0 p1 p2 p3 p4 p5 : Pos) (txt : Str) (k : Nat) (rest : List Stmt),
  body = .Expr (.Call (.Attribute (.Call (.Name "super" p0) [] [] p1) "__init__" p2) [.Constant (.str txt) k p3] [] p4) p5 :: rest ∧ Sets fs rest ∧
  ∃ pl : Env → Sem Bool, ∀ env : Env, eval (.Call (.Attribute (.Call (.Name "super" p0) [] [] p1) "__init__" p2) [.Constant (.str txt) k p3] [] p4) env = (do
      let ov ← attributeBase (.Call (.Name "super" p0) [] [] p1) "__init__" env (eval (.Call (.Name "super" p0) [] [] p1) env)
      standAt p2.atName
      let (f, first) ← holding [ov] (getMethod ov "__init__" (pl env))
      callWith p4 f first (backTo p4 (starEach [.Constant (.str txt) k p3] env)) [])

structure ErrTxt (P : Program) (K : Frag) (mg : Str → Option Value) (x : Str) (C fI : Addr) (fs : List Str) : Prop where
  gC : mg x = some (.ref C)
  cls : ∃ nm q N bs bm sn sub ab col dd k0 k1 k2 k3 k5, K.lookup C = some (excClassObj nm q C N bs bm true sn sub ab col dd k0 k1 k2 k3 k5 "ValueError.__new__") ∧ refsVE bm = true
  sa : findIn K (.ref C) "__setattr__" = some (some (.builtin "object.__setattr__"))
  noF : ∀ f ∈ fs, findIn K (.ref C) f = some none
  iC : findIn K (.ref C) "__init__" = some (some (.ref fI))
  tC : typeIn K (.ref fI) = some (.type "function")
  kC : keepIn K (.ref C) = true
  exC : subIn K (.ref C) (.type "BaseException") = some true
  veC : subIn K (.ref C) (.type "ValueError") = some true
  tyC : typeIn K (.ref C) = some (.type "type")
  sup : nsIn K mainGlobals "super" = some none
  opq : nsIn K cStatics "thirdparty.any" = some none
  spI : ks_superIn K C C "__init__" = some (some (.builtin "ValueError.__init__"))
  mrC : mroIn K C (.ref C) = some true
  top : (P.main.scope.names.lookup ("super" : Str)).isSome = false
  fn : ∃ (oc : Value) (od : Option Addr) (osl : Array (Option Value)) (qual : Str) (st : Stmt) (kV doc pm : Value) (an : Option Addr) (ct : Value) (cc cda : Addr) (ccl cl : Value) (cdd cld : Option Addr) (ccs csl : Array (Option Value)) (vs : Array Value) (file : Str) (tf : Tok) (ar : Arg) (args : List Arg),
    K.lookup fI = some ⟨oc, od, .func (ksFn "__init__" qual (defArgs st) (defBody st) (defScope st) .none kV doc pm an (.ref cda) ct cc), osl⟩ ∧ codeIn K (.ref cda) qual = true ∧
    K.lookup cda = some ⟨ccl, cdd, .fields vs, ccs⟩ ∧ vs[2]? = some (.str file tf) ∧ ((P.main.file : Str) == file) = true ∧
    K.lookup cc = some ⟨cl, cld, .cell (some (.ref C)), csl⟩ ∧
    SupBody fs (defBody st) ∧ ((defArgs st).posonlyargs ++ (defArgs st).args).head? = some ar ∧ ar.arg = "self" ∧
    (∀ us : List Value, us.length = fs.length + 1 → bindArgs (ksFn "__init__" qual (defArgs st) (defBody st) (defScope st) .none kV doc pm an (.ref cda) ct cc) ⟨us, []⟩ = pure ((("self" : Str) :: fs).zip us)) ∧
    (defScope st).names.lookup ("super" : Str) = some .globalImplicit ∧ (defScope st).names.lookup ("__class__" : Str) = some .free ∧ (∀ f ∈ ("self" : Str) :: fs, (defScope st).names.lookup f = some .local) ∧
    (defScope st).kind = .function ∧ (∀ x ∈ (defScope st).names, x.2 ≠ .cell) ∧ (defScope st).isCoroutine = false ∧ (defScope st).isGenerator = false ∧ (("self" : Str) :: fs).Nodup ∧ (∀ f ∈ ("self" : Str) :: fs, (f == ("__debug__" : Str)) = false)

/-- the fields' values, one stored behind the other -/
def setAll (m : Str → Option Value) : List Str → List Value → Str → Option Value
  | f :: fs, u :: us => setAll (fun y => if y = f then some u else m y) fs us
  | _, _ => m
def setL (acc : List (Str × V)) : List Str → List V → List (Str × V)
  | f :: fs, v :: vs => setL ((f, v) :: acc) fs vs
  | _, _ => acc
theorem setL_rel : ∀ {fs : List Str} {vs : List V} {us : List Value} {acc : List (Str × V)} {m : Str → Option Value}, Vals vs us → (∀ f, RelO (acc.lookup f) (m f)) → ∀ f, RelO ((setL acc fs vs).lookup f) (setAll m fs us f)
  | [], _, _, _, _, _, r, f => by
    unfold setL setAll
    exact r f
  | g :: fs, _, _, _, _, .nil, r, f => by
    unfold setL setAll
    exact r f
  | g :: fs, _, _, _, _, .cons rv rs, r, f => by
    unfold setL setAll
    exact setL_rel rs (fun y => relO_put rv r y) f
/-- the exception at x: no field yet | the fields m0 (names nl) in the dict at dx, that lies above z -/
def XAt (h : Heap) (x C z : Addr) (m0 : Str → Option Value) (nl : List Str) : Prop :=
  (∃ t1 : Addr, h.get? x = some { cls := .ref C, data := .fields #[.ref t1, .none, .none, .none, .bool false, .none] } ∧ (∀ y, m0 y = none) ∧ nl = []) ∨
  ∃ (t1 dx : Addr), h.get? x = some { cls := .ref C, dict := some dx, data := .fields #[.ref t1, .none, .none, .none, .bool false, .none] } ∧ z ≤ dx ∧ dx ≠ x ∧ h.Ns1 dx m0 ∧ Within m0 nl
structure InitEnd (h h' : Heap) (x C : Addr) (fs : List Str) (us : List Value) : Prop where
  keep : ∀ b o, b ≠ x → h.get? b = some o → h'.get? b = some o
  obj : ∃ nl, XAt h' x C h.objs.size (setAll (fun _ => none) fs us) nl

theorem ld {M : Model} {s : Shared} {env : Env} {m : Str → Option Value} {x : Str} {pos : Pos} {v : Value} {Q : Value → Shared → Prop} {A : Around} {E : Value → Shared → Prop} (hn : s.heap.Ns env.locals m) (hv : m x = some v) (h : Q v s)
    (hk : env.scope.kind = .function) (hl : env.kindOf x = some .local) (hd : (x == ("__debug__" : Str)) = false) :
    wpAny M A (eval (.Name x pos) env) Q E s := wpAny_Name (wpAny_loadName_local hk hl hn hv h) hd
section
variable {prog : Program} {w : World} {A : Around} {E : Value → Shared → Prop} {K : Frag} {mg : Str → Option Value} {C fI : Addr} {nm : Str} {fs0 : List Str}
theorem sets_run (T : ErrTxt prog K mg nm C fI fs0) {env : Env} {x z : Addr} {m : Str → Option Value} {Q : Flow → Shared → Prop} (hk : env.scope.kind = .function) (hself : m "self" = some (.ref x)) (hls : env.kindOf "self" = some .local) (hlz : env.locals < z) (hxL : x ≠ env.locals) (Kx : ∀ b o, K.lookup b = some o → b ≠ x ∧ b < z) :
    ∀ {fs : List Str} {rest : List Stmt} {us : List Value} {m0 : Str → Option Value} {nl : List Str} {s : Shared}, Sets fs rest → us.length = fs.length → nl.length + fs.length ≤ 900 → (∀ f ∈ fs, f ∈ fs0) → (∀ f ∈ fs, env.kindOf f = some .local ∧ (f == ("__debug__" : Str)) = false) →
      (∀ (i : Nat) (f : Str) (u : Value), fs[i]? = some f → us[i]? = some u → m f = some u) → K.In s.heap → z ≤ s.heap.objs.size → s.heap.Ns env.locals m → XAt s.heap x C z m0 nl →
      (∀ h' tk nl', (∀ b o, b ≠ x → b < z → s.heap.get? b = some o → h'.get? b = some o) → XAt h' x C z (setAll m0 fs us) nl' → Q .next { s with heap := h', toks := tk }) →
      wpAny (model prog w) A (execs rest env) Q E s
  | _, _, us, m0, nl, s, .nil, hl, hn, _, _, _, _, _, _, hx, q => by
    have e : us = [] := List.length_eq_zero_iff.mp hl
    subst e
    exact wpAny_execs_nil (q s.heap s.toks nl (fun _ _ _ _ h => h) hx)
  | _, _, [], m0, nl, s, .cons S, hl, _, _, _, _, _, _, _, _, _ => by cases hl
  | _, _, u :: us, m0, nl, s, .cons (f := f) (fs := fs) (rest := rest) S, hl, hn, hf0, hfl, hm, X, hz, N, hx, q => by
    obtain ⟨nm', q', N', bs, bm, sn, sub, ab, col, dd, k0, k1, k2, k3, k5, hC, hbm⟩ := T.cls
    have hcl : clsIn K C = some { name := nm', bases := bs, mro := .ref C :: bm, ns := N', qualname := q', hasDict := true, slotNames := sn, subclasses := sub, abstract := ab, collection := col, hasDel := false } := by unfold clsIn; rw [hC] <;> rfl
    have hnof := T.noF f (hf0 f List.mem_cons_self)
    have hlf := hfl f List.mem_cons_self
    refine wpAny_execs_cons (plainObj_wpAny_Assign_Attribute ?_)
    refine ld N (hm 0 f u rfl rfl) (ld N hself ?_ hk hls (by decide)) hk hlf.1 hlf.2
    have hm' : ∀ (i : Nat) (g : Str) (w : Value), fs[i]? = some g → us[i]? = some w → m g = some w := fun i g w h1 h2 => hm (i + 1) g w h1 h2
    have step : ∀ (h3 : Heap) (tk3 : Nat) (dx t1 : Addr), (∀ b o, b ≠ x → b ≠ dx → s.heap.get? b = some o → h3.get? b = some o) → z ≤ dx → dx ≠ x → h3.get? x = some { cls := .ref C, dict := some dx, data := .fields #[.ref t1, .none, .none, .none, .bool false, .none] } →
        h3.Ns1 dx (fun y => if y = f then some u else m0 y) → Within (fun y => if y = f then some u else m0 y) (f :: nl) → z ≤ h3.objs.size → wpAny (model prog w) A (execs rest env) Q E { s with heap := h3, toks := tk3 } := by
      intro h3 tk3 dx t1 k3 zd dne hx3 n3 w3 hz3
      have hxz : ∀ b : Addr, b < z → b ≠ dx := fun b hb e => absurd (e ▸ hb) (Nat.not_lt.mpr zd)
      obtain ⟨oL, es, ep, hL, r⟩ := N
      refine sets_run T hk hself hls hlz hxL Kx (fs := fs) (rest := rest) (us := us) (s := { s with heap := h3, toks := tk3 }) S (Nat.succ.inj hl) (nl := f :: nl) (by rw [List.length_cons] at hn ⊢; omega) (fun g hg => hf0 g (List.mem_cons_of_mem _ hg)) (fun g hg => hfl g (List.mem_cons_of_mem _ hg)) hm' (fun b o e => ?_) hz3 ⟨oL, es, ep, k3 _ _ (Ne.symm hxL) (hxz _ hlz) hL, r⟩ (.inr ⟨t1, dx, hx3, zd, dne, n3, w3⟩) fun h' tk nl' k q' => ?_
      · exact k3 b o (Kx b o e).1 (hxz b (Kx b o e).2) (X b o e)
      · exact q h' tk nl' (fun b o hb hbz e => k b o hb hbz (k3 b o hb (hxz b hbz) e)) q'
    obtain ⟨hp, g, d, tk, os⟩ := s
    rcases hx with ⟨t1, hx, hm0, hnl⟩ | ⟨t1, dx, hx, zd, dne, n0, w0⟩
    · subst hnl
      have em : (fun y => if y = f then some u else none) = (fun y => if y = f then some u else m0 y) := by
        funext y
        rw [hm0 y]
      refine set_plain X (ox := { cls := .ref C, data := .fields #[.ref t1, .none, .none, .none, .bool false, .none] }) (od := none) ⟨hx, rfl, rfl, trivial⟩ T.sa ?_
      refine exc_osa X hx hcl (show refsVE (.ref C :: bm) = true from hbm) rfl hnof (fun h' tk' dx k dn dne hx' hn' => ?_)
      rw [em] at hn'
      have hzd : z ≤ dx := Nat.le_trans hz dn
      refine step h' tk' dx t1 (fun b o hb _ e => k b o hb e) hzd dne hx' hn' (fun y hy => ?_) ?_
      · by_cases e : y = f
        · rw [e]
          exact List.mem_cons_self
        · exact absurd (by show (if y = f then some u else m0 y) = none; rw [if_neg e, hm0 y]) hy
      · obtain ⟨o, _, _, e, _⟩ := hn'
        exact Nat.le_of_lt (Nat.lt_of_le_of_lt hzd (Heap.lt_size e))
    · obtain ⟨oD, _, _, hoD, _, _⟩ := n0.count w0
      refine set_plain X (ox := { cls := .ref C, dict := some dx, data := .fields #[.ref t1, .none, .none, .none, .bool false, .none] }) (od := some oD) ⟨hx, rfl, rfl, hoD⟩ T.sa ?_
      refine PySem.OEX.osa_old X hx n0 w0 (by rw [List.length_cons] at hn; omega) hcl (show refsVE (.ref C :: bm) = true from hbm) rfl hnof (fun h' tk' k hn' => ?_)
      refine step h' tk' dx t1 (fun b o _ hb e => k b o hb e) zd dne (k x _ (Ne.symm dne) hx) hn' (Within.cons f u w0) ?_
      obtain ⟨o, _, _, e, _⟩ := hn'
      exact Nat.le_of_lt (Nat.lt_of_le_of_lt zd (Heap.lt_size e))

theorem look_rev : ∀ {ks : List Str} {vs : List Value} {i : Nat} {k : Str} {v : Value}, ks.Nodup → ks[i]? = some k → vs[i]? = some v → (ks.zip vs).reverse.lookup k = some v
  | [], _, _, _, _, _, h, _ => by simp at h
  | _ :: _, [], _, _, _, _, _, h => by simp at h
  | k0 :: ks, v0 :: vs, 0, k, v, nd, h1, h2 => by
    have e1 : k0 = k := Option.some.inj h1
    have e2 : v0 = v := Option.some.inj h2
    subst e1; subst e2
    rw [List.zip_cons_cons, List.reverse_cons, List.lookup_append]
    have hn : (ks.zip vs).reverse.lookup k0 = none := by
      rw [List.lookup_eq_none_iff]
      intro p hp
      have hm := (List.of_mem_zip (List.mem_reverse.mp hp)).1
      have hne : k0 ≠ p.1 := fun e => (List.nodup_cons.mp nd).1 (e ▸ hm)
      simpa using hne
    rw [hn]
    simp [List.lookup]
  | k0 :: ks, v0 :: vs, i + 1, k, v, nd, h1, h2 => by
    rw [List.zip_cons_cons, List.reverse_cons, List.lookup_append, look_rev (List.nodup_cons.mp nd).2 h1 h2]
    rfl
theorem err_init (T : ErrTxt prog K mg nm C fI fs0) {R : Result → Shared → Prop} {base : Heap} {s : Shared} {x t0 : Addr} {us : List Value} (M : Mod K mg base) (bk : ∀ b o, base.get? b = some o → s.heap.get? b = some o) (hx : s.heap.get? x = some (excO C t0))
    (Kx : ∀ b o, K.lookup b = some o → b ≠ x ∧ b < s.heap.objs.size) (hl : us.length = fs0.length) (hn0 : fs0.length ≤ 900) (hroom : A.depth < recursionLimit)
    (hq : ∀ h' tk, InitEnd s.heap h' x C fs0 us → R (.ok (.ret .none)) { s with heap := h', toks := tk }) :
    codeAny (model prog w) A (.call (.ref fI) ⟨.ref x :: us, []⟩) R s := by
  obtain ⟨oc, od, osl, qual, st, kV, doc, pm, an, ct, cc, cda, ccl, cl, cdd, cld, ccs, csl, vs, file, tf, ar, args, ho, hcd, hcode, hvs, hfile, hcell, ⟨p0, p1, p2, p3, p4, p5, txt, kk, rest, eb, S, pl, hev⟩, hp, har, hb, hks, hkc, hloc, hk, hnc, hco, hgen, hnd, hdbg⟩ := T.fn
  obtain ⟨nm', q', N', bs, bm, sn, sub, ab, col, dd, k0, k1, k2, k3, k5, hC, hbm⟩ := T.cls
  have hcl : clsIn K C = some { name := nm', bases := bs, mro := .ref C :: bm, ns := N', qualname := q', hasDict := true, slotNames := sn, subclasses := sub, abstract := ab, collection := col, hasDel := false } := by unfold clsIn; rw [hC] <;> rfl
  have X : K.In s.heap := M.kin.keeps bk
  have hlim : s.heap.NoLimit := M.nolimit.keeps bk
  obtain ⟨mb, hmb, hmb2⟩ := M.blt
  refine ks_codeAny_call_defAt (fd := ksFn "__init__" qual (defArgs st) (defBody st) (defScope st) .none kV doc pm an (.ref cda) ct cc) (body := defBody st) (binds := (("self" : Str) :: fs0).zip (.ref x :: us)) hroom (X _ _ ho) rfl hlim (codeRec_of X hcd) rfl (BindsTo.of_eq (hb _ (by rw [List.length_cons, hl]))) hnc
    (fun y hy => hloc y.1 (List.of_mem_zip hy).1) (fun h1 hns kp => ?_) hco hgen hk
  have X1 : K.In h1 := X.keeps kp
  have hx1 := kp _ _ hx
  rw [eb]
  refine ks_wpAt_execs_cons (ks_wpAt_Expr_any ?_ (by show ((defScope st).kind == .module && _) = false; rw [hk]; rfl) rfl)
  refine ks_wpAt_MethodCall (pl := pl _) ?_ (hev _)
  refine ks_wpAt_super_base (ar := ar) hks hkc (by decide) rfl (X1 _ _ ho) rfl hp rfl (X1 _ _ hcode) rfl hvs hfile T.top ?_
  refine ks_loadName_global hk hks (loadGlobal_builtin (M.glob.keeps fun b o e => kp b o (bk b o e)) (mg_none_of M.kin M.glob T.sup) (hmb.keeps fun b o e => kp b o (bk b o e)) ((hmb2 _ (by decide)).trans (show bootBuiltins "super" = some (.type "super") by decide +kernel)) ⟨rfl, ?_⟩)
  refine wpAny_loadName_free hk hkc rfl ⟨_, X1 _ _ hcell, rfl⟩ ?_
  rw [har]
  have hself : ((("self" : Str) :: fs0).zip (Value.ref x :: us)).reverse.lookup ("self" : Str) = some (.ref x) := look_rev hnd (i := 0) rfl rfl
  refine wpAny_loadName_local hk (hloc _ List.mem_cons_self) hns hself ?_
  have hD1 := X1 _ _ hC
  refine ks_wpAny_isType_cls hD1 rfl ⟨rfl, ?_⟩
  refine ks_wpAny_call_super hD1 rfl hx1 rfl (fun c e => by cases e) (looks_mroIn X1 T.mrC) (fun h2 hso k2 => ?_)
  have X2 : K.In h2 := X1.keeps k2
  have hx2 := k2 _ _ hx1
  have hI2 : Looks (model prog w) h2 (isInstance (.ref x) (.type "ValueError")) true := (show InstAt h2 x (excO C t0) C none from ⟨hx2, rfl, rfl, trivial⟩).type.andThen (looks_subIn X2 T.veC)
  have hm := T.spI
  unfold ks_superIn at hm
  rw [hcl] at hm
  have hxC : x ≠ C := fun e => (Kx C _ hC).1 e.symm
  refine kxs_getMethod kxs_ValueError hso (looks_opaque X2 T.opq) (l₀ := .ref C :: bm) (fun A Q E s k q => wpAny_bind ((looks_clsIn X2 hcl) A _ E s k (wpAny_pure q))) rfl X2 hm hI2 hxC (by decide) ?_
  refine kxs_callWith (i := "ValueError.__init__") (x := x) rfl (evalArgs_plain (Calls.spliced_cons (Calls.Constant_str (x := txt) (k := kk) (pos := p3) ?_)))
  refine Calls.spliced_nil ?_
  refine ⟨(Heap.get?_push_at rfl rfl : KxsAt "ValueError.__init__" h2.objs.size x (h2.push (kxs_mw "ValueError.__init__" x))), ?_⟩
  have kp3 : ∀ b o, h2.get? b = some o → (h2.push (kxs_mw "ValueError.__init__" x)).get? b = some o := fun b o e => Heap.get?_push_of_some _ e
  have hu : (h2.push (kxs_mw "ValueError.__init__" x)).get? h2.objs.size = some (kxs_mw "ValueError.__init__" x) := Heap.get?_push_at rfl rfl
  refine wpAny_call (codeAny_of_tree ?_)
  show wpAny _ (Around.in1 _) (callAny (.ref h2.objs.size) ⟨[_], []⟩) _ _ _
  simp only [callAny]
  refine wpAny_bind (wpAny_load hu ?_)
  simp only [kxs_mw, show (Value.type "method-wrapper" == Value.type "method" || Value.type "method-wrapper" == Value.type "builtin_function_or_method" || Value.type "method-wrapper" == Value.type "method-wrapper") = true by decide, if_true]
  refine KFB.if_so (by decide) ?_
  refine wpAny_bind (check_bound_init F.excBase_ValueError.toExcCallFacts (kp3 _ _ (X2 _ _ hC)) (kp3 _ _ hx2) rfl ?_)
  refine wpAny_bind (wpAny_pure (wpAny_pure ?_))
  refine ⟨plainId_quiet F.excBase_ValueError.init.plain _, codeAny_builtin F.excBase_ValueError.initEntry ?_⟩
  rw [Around.under_plainId F.excBase_ValueError.init.plain _]
  refine exc_init_tree (cls := .ref C) (t0 := t0) (dv := none) (c2 := .none) (c3 := .none) (b4 := .bool false) (kp3 _ _ hx2) (by rw [sizeLine_eq]; show 1 ≤ 16777216; decide) fun h4 k4 hx4 ht4 => ?_
  have kall : ∀ b o, b ≠ x → h1.get? b = some o → h4.get? b = some o := fun b o hb e => k4 b o hb (kp3 b o (k2 b o e))
  have hsz : s.heap.objs.size < h1.objs.size := hns.lt
  refine wpAt_of_wpAny ?_
  have hxs : x < s.heap.objs.size := Heap.lt_size hx
  obtain ⟨oL, es, ep, hL, r⟩ := hns
  have ns4 : h4.Ns s.heap.objs.size (fun y => ((("self" : Str) :: fs0).zip (Value.ref x :: us)).reverse.lookup y) := ⟨oL, es, ep, kall _ _ (Nat.ne_of_gt hxs) hL, r⟩
  have hz4 : h1.objs.size ≤ h4.objs.size := by
    have z1 := Heap.lt_size hso
    have z2 := Heap.lt_size ht4
    rw [Heap.size_push] at z2
    exact Nat.le_of_lt (Nat.lt_trans z1 (Nat.lt_trans (Nat.lt_succ_self _) z2))
  refine sets_run (env := ksEnv qual (defScope st) s.heap.objs.size fI (.ref cda) cc) (us := us) (m0 := fun _ => none) (nl := []) (z := h1.objs.size) (x := x) (m := fun y => ((("self" : Str) :: fs0).zip (Value.ref x :: us)).reverse.lookup y) T hk hself (hloc _ List.mem_cons_self) hsz (Nat.ne_of_lt hxs) (fun b o e => ⟨(Kx b o e).1, Nat.lt_trans (Kx b o e).2 hsz⟩) S hl (by simpa using hn0) (fun f hf => hf)
    (fun f hf => ⟨hloc f (List.mem_cons_of_mem _ hf), hdbg f (List.mem_cons_of_mem _ hf)⟩) (fun i f u h1 h2 => ?_) (fun b o e => kall b o (Kx b o e).1 (X1 b o e)) hz4 ns4 (.inl ⟨_, hx4, fun _ => rfl, rfl⟩) fun h' tk nl' k q => ?_
  · exact look_rev hnd (i := i + 1) h1 h2
  · refine hq h' tk ⟨fun b o hb e => k b o hb (Nat.lt_trans (Heap.lt_size e) hsz) (kall b o hb (kp b o e)), nl', ?_⟩
    rcases q with q | ⟨t1, dx, q1, q2, q3⟩
    · exact .inl q
    · exact .inr ⟨t1, dx, q1, Nat.le_trans (Nat.le_of_lt hsz) q2, q3⟩
/-- a made error -/
structure Made (h h' : Heap) (e C : Addr) (fs : List Str) (us : List Value) : Prop where
  keep : ∀ b o, h.get? b = some o → h'.get? b = some o
  new : h.objs.size ≤ e
  obj : ∃ nl, XAt h' e C h.objs.size (setAll (fun _ => none) fs us) nl
theorem err_made (T : ErrTxt prog K mg nm C fI fs0) {R : Result → Shared → Prop} {base : Heap} {s : Shared} {us : List Value} (M : Mod K mg base) (bk : ∀ b o, base.get? b = some o → s.heap.get? b = some o) (hl : us.length = fs0.length) (hn0 : fs0.length ≤ 900) (hroom : A.depth + 1 < recursionLimit)
    (hq : ∀ h' tk e, Made s.heap h' e C fs0 us → R (.ok (.ret (.ref e))) { s with heap := h', toks := tk }) :
    codeAny (model prog w) A (.call (.ref C) ⟨us, []⟩) R s := by
  obtain ⟨nm', q', N', bs, bm, sn, sub, ab, col, dd, k0, k1, k2, k3, k5, hC, hbm⟩ := T.cls
  have X : K.In s.heap := M.kin.keeps bk
  obtain ⟨hp, g, dr, tk, os⟩ := s
  have k : ∀ b o, hp.get? b = some o → ((hp.push (kdv_tup us)).push (excO C hp.objs.size)).get? b = some o := fun b o e => Heap.get?_push_of_some _ (Heap.get?_push_of_some _ e)
  have hget : ((hp.push (kdv_tup us)).push (excO C hp.objs.size)).get? (hp.objs.size + 1) = some (excO C hp.objs.size) := by heap_get
  have hus : us.length ≤ sizeLine := by rw [sizeLine_eq]; omega
  refine call_own F.excBase_ValueError (fun X => refsVE_contains X bm hbm) (X _ _ hC) (looks_findIn X T.iC) (fun self => bind_fn X self T.tC) hus ?_
  have hKx : ∀ b o, K.lookup b = some o → b ≠ hp.objs.size + 1 ∧ b < ((hp.push (kdv_tup us)).push (excO C hp.objs.size)).objs.size := fun b o e => by
    have z : b < hp.objs.size := Heap.lt_size (X b o e)
    refine ⟨Nat.ne_of_lt (Nat.lt_succ_of_lt z), ?_⟩
    rw [Heap.size_push, Heap.size_push]
    exact Nat.lt_succ_of_lt (Nat.lt_succ_of_lt z)
  refine err_init (s := ⟨(hp.push (kdv_tup us)).push (excO C hp.objs.size), g, dr, tk, os⟩) T M (fun b o e => k b o (bk b o e)) hget hKx hl hn0 ?_ fun h' tk' I => ?_
  · show A.depth + 1 < recursionLimit
    exact hroom
  · have old : ∀ b o, hp.get? b = some o → h'.get? b = some o := fun b o e => I.keep b o (Nat.ne_of_lt (Nat.lt_succ_of_lt (Heap.lt_size e))) (k b o e)
    obtain ⟨nl, ob⟩ := I.obj
    refine ⟨rfl, hq h' tk' (hp.objs.size + 1) ⟨old, Nat.le_succ _, nl, ?_⟩⟩
    rcases ob with q | ⟨t1, dx, q1, q2, q3⟩
    · exact .inl q
    · refine .inr ⟨t1, dx, q1, Nat.le_trans ?_ q2, q3⟩
      show hp.objs.size ≤ ((hp.push (kdv_tup us)).push (excO C hp.objs.size)).objs.size
      rw [Heap.size_push, Heap.size_push]
      exact Nat.le_succ_of_le (Nat.le_succ _)
end
end ErrX
end PySem

namespace L2
open PySem PySem.Spec PyProof.Rows PySem.ErrX
section
variable {X : Cx} {C fI : Addr} {x : Str} {fs : List Str}
/-- Err(e, ..): the error's class, its dict d, new -/
def tMkE (C : Addr) (fs : List Str) (ta : TA) : St → Hp → XK → Prop := fun σ H Q => ta σ H fun vs H1 => vs.length = fs.length ∧ ∀ d, H1 d = none → Q (.ref C) (some d) (upd H1 d (.xd (setL [] fs vs)))
theorem mk_err {pins : List (Addr × Obj)} {σ : St} {H1 : Hp} {Q : XK} {s1 : Shared} {k : Nat} {vs : List V} {us : List Value} (T : ErrTxt X.prog X.K X.mg x C fI fs) (hf : fs ≠ []) (hn : fs.length ≤ 900) (hr : Room k X.A) (I1 : Inv X pins σ H1 s1) (r1 : Vals vs us) (hlv : vs.length = fs.length)
    (q1 : ∀ d, H1 d = none → Q (.ref C) (some d) (upd H1 d (.xd (setL [] fs vs)))) : wpAny (model X.prog X.w) X.A (call (.ref C) us) (MkP X pins σ Q) X.xe s1 := by
  have hlu : us.length = fs.length := by rw [← Paired.length r1]; exact hlv
  obtain ⟨hp, g, dr, tk, os⟩ := s1
  refine wpAny_call (err_made T I1.mod (fun b o e => I1.bk b o e) hlu hn (by have := hr.dp; omega) fun h' tk' e M => ?_)
  show MkP X pins σ Q (.ref e) ⟨h', g, dr, tk', os⟩
  obtain ⟨nl, ob⟩ := M.obj
  have hfst : ∃ f0 fr u0 ur, fs = f0 :: fr ∧ us = u0 :: ur := by
    cases fs with
    | nil => exact absurd rfl hf
    | cons f0 fr =>
      cases us with
      | nil => cases hlu
      | cons u0 ur => exact ⟨f0, fr, u0, ur, rfl, rfl⟩
  rcases ob with ⟨t1, hoe, hnone, _⟩ | ⟨t1, d, hoe, hdz, dne, hns, _⟩
  · exfalso
    obtain ⟨f0, fr, u0, ur, rfl, rfl⟩ := hfst
    have key : ∀ (fs : List Str) (us : List Value) (m : Str → Option Value) (y : Str), (m y).isSome = true → (setAll m fs us y).isSome = true := by
      intro fs
      induction fs with
      | nil => intro us m y h; unfold setAll; exact h
      | cons f fs ih =>
        intro us m y h
        cases us with
        | nil => unfold setAll; exact h
        | cons u us =>
          unfold setAll
          refine ih us _ y ?_
          by_cases e : y = f
          · rw [if_pos e]; rfl
          · rw [if_neg e]; exact h
    have z := key fr ur (fun y => if y = f0 then some u0 else none) f0 (by rw [if_pos rfl]; rfl)
    have z2 := hnone f0
    unfold setAll at z2
    rw [z2] at z
    cases z
  · obtain ⟨G', g1, g2⟩ := restrict h' fun b => decide (b ≠ e)
    have gk : ∀ b, b ≠ e → G'.get? b = h'.get? b := fun b hb => g1 b (decide_eq_true hb)
    have ge : G'.get? e = none := g2 e (by simp)
    have old : ∀ b o, hp.get? b = some o → G'.get? b = some o := fun b o q => (gk b (Nat.ne_of_lt (Nat.lt_of_lt_of_le (Heap.lt_size q) M.new))).trans (M.keep b o q)
    have ob : ObjOk X.prog X.w (upd H1 d (.xd (setL [] fs vs))) G' d (.xd (setL [] fs vs)) :=
      ⟨_, hns.at (fun o q => (gk d dne).trans q), fun f => setL_rel (acc := []) (m := fun _ => none) r1 (fun _ => (True.intro : RelO none none)) f⟩
    have J : Inv X pins σ (upd H1 d (.xd (setL [] fs vs))) ⟨G', g, dr, tk', os⟩ := I1.laid (t' := tk') old hdz ob
    refine ⟨e, _, _, ⟨G', g, dr, tk', os⟩, _, .ref C, some d, rfl, J, fun b o q => ?_, ge, hoe, ⟨rfl, rfl⟩, rfl, rfl, ?_, rfl, I1.bare, raises_own T.exC T.tyC, q1 d (I1.hok.fresh hdz)⟩
    · by_cases hb : b = e
      · have q' : G'.get? b = some o := q
        rw [hb, ge] at q'; cases q'
      · exact (gk b hb).symm.trans q
    · rw [upd_ne (Ne.symm dne)]
      exact I1.hok.fresh M.new
theorem pmk_err {e : Expr} {es : List Expr} {ta : TA} {p pos : Pos} {k : Nat} (T : ErrTxt X.prog X.K X.mg x C fI fs) (hf : fs ≠ []) (hn : fs.length ≤ 900) (hr : Room k X.A) (ha : PA X (e :: es) ta) (hg : Gl X x := by rfl) (hdb : (x == ("__debug__" : Str)) = false := by decide)
    (he : starEach (e :: es) X.env = (false, eval e X.env) :: starEach es X.env := by rfl) (hpl : (backTo pos (starEach es X.env)).any (·.1) = false := by rfl) :
    PMk X (.Call (.Name x p) (e :: es) [] pos) (tMkE C fs ta) := by
  intro pins s σ H Q I h
  refine wpAny_Call_Name_kw (ld_glob I hg T.gC ?_ hdb)
  refine PySem.W.callWith_K (h₀ := X.base) I.ok.mod.kin T.kC (thn (ha.run pos pins s σ H _ I h) fun us s1 hh => ?_) he hpl
  obtain ⟨vs, H1, I1, r1, hlv, q1⟩ := hh
  exact ⟨I1.kIn, mk_err T hf hn hr I1 r1 hlv q1⟩
/-- raise Err(e, ..) -/
def tRaiseE (C : Addr) (fs : List Str) (W : WX) (ta : TA) : TS := fun _ σ H => tMkE C fs ta σ H fun cls d H' => W cls d σ H'
theorem ps_raiseE {e : Expr} {es : List Expr} {ta : TA} {W : WX} {p pos pos2 : Pos} {k : Nat} (hc : X.calm = true) (T : ErrTxt X.prog X.K X.mg x C fI fs) (hf : fs ≠ []) (hn : fs.length ≤ 900) (hr : Room k X.A) (tk : Takes X W) (ha : PA X (e :: es) ta) (hg : Gl X x := by rfl) (hdb : (x == ("__debug__" : Str)) = false := by decide)
    (he : starEach (e :: es) X.env = (false, eval e X.env) :: starEach es X.env := by rfl) (hpl : (backTo pos (starEach es X.env)).any (·.1) = false := by rfl) :
    PS X (.Raise (some (.Call (.Name x p) (e :: es) [] pos)) none pos2) (tRaiseE C fs W ta) := ps_raise hc tk (pmk_err T hf hn hr ha hg hdb he hpl)
end
end L2
namespace L2
open PySem PySem.Spec PyProof.Rows
/-! ### calls whose errors are wished for at the slots -/
section
variable {X : Cx} {CX : CXT} {k : Nat} {f C : Addr} {fd : FuncData} {ps : List Str} {sp : Sp} {E : St → XK} {x m : Str} {p pos apos : Pos} {e o a b : Expr} {es : List Expr} {ta tb : TE} {t : TA}
theorem pass0S (σ : St) : PassesAt CX0 X σ E0 := fun _ _ _ _ _ _ h => h.elim
theorem passLS (σ : St) : PassesAt (L2.CX X.prog X.w) X σ E0 := fun _ _ _ _ _ _ h => by
  obtain ⟨_, _, _, _, _, _, _, _, _, _, _, _, z⟩ := h
  exact z.elim
def tMakeS (C : Addr) (sp : Sp) (E : St → XK) (t : TA) : TE := fun σ H Q => t σ H fun vs H1 => ∀ x dx, H1 x = none → H1 dx = none → dx ≠ x →
  sp (.ref x :: vs) (upd (upd H1 dx (.own x)) x (.ins C dx [])) (fun v H2 => v = .non ∧ Q (.ref x) H2) (E σ)
theorem run_makeS {pins : List (Addr × Obj)} {σ : St} {H : Hp} {s : Shared} {Q : VK} {us : List Value} {vs : List V} (M : Mk X.K C f) (F : FnOk X.prog X.w X.K X.mg X.base CX k f fd ps sp) (hr : Room (k + 1) X.A) (hb : Binds X.K fd ps [])
    (hx : PassesAt CX X σ (E σ)) (I : Inv X pins σ H s) (r : Vals vs us)
    (h : ∀ x dx, H x = none → H dx = none → dx ≠ x → sp (.ref x :: vs) (upd (upd H dx (.own x)) x (.ins C dx [])) (fun v H2 => v = .non ∧ Q (.ref x) H2) (E σ)) :
    wpAny (model X.prog X.w) X.A (call (.ref C) us) (EP X pins σ Q) X.xe s := by
  have hq := h (s.heap.objs.size + 1) s.heap.objs.size (I.hok.fresh (Nat.le_succ _)) (I.hok.fresh (Nat.le_refl _)) (Nat.ne_of_lt (Nat.lt_succ_self _))
  have I2 := Inv.made (C := C) I
  have r2 : Vals (V.ref (s.heap.objs.size + 1) :: vs) (Value.ref (s.heap.objs.size + 1) :: us) := .cons rfl r
  have hl : (Value.ref (s.heap.objs.size + 1) :: us).length = ps.length := by
    have e := r2.length
    rw [F.len _ _ _ _ hq] at e
    exact e.symm
  have bb := hb { s with heap := (s.heap.push PySem.W.emptyDict).push (PySem.W.instObj C s.heap.objs.size) } (Value.ref (s.heap.objs.size + 1) :: us) I2.kIn (by rw [List.append_nil]; exact hl)
  rw [List.append_nil] at bb
  refine wpAny_call (make_map (f := f) I.kIn M.makes M.init (beq_iff_eq.mp M.fn) (codeAny_mono (F.run _ X.stack _ _ ⟨Value.ref (s.heap.objs.size + 1) :: us, []⟩ (Value.ref (s.heap.objs.size + 1) :: us) _ _ (E σ) (hr.make C us [])
    (I2.env0.make C us []) bb r2 hq) fun r s' hq' => ?_))
  cases r with
  | error e => exact hx pins _ _ e s' I2 hq'
  | ok fl =>
    cases fl with
    | ret u =>
      obtain ⟨v, H', I3, rv, ev, q3⟩ := I2.after hq'
      subst ev
      exact ⟨rv, ⟨V.ref (s.heap.objs.size + 1), H', I3, rfl, q3⟩⟩
    | next => exact False.elim hq'
    | brk => exact False.elim hq'
    | cont => exact False.elim hq'
theorem pe_makeS (M : Mk X.K C f) (F : FnOk X.prog X.w X.K X.mg X.base CX k f fd ps sp) (hr : Room (k + 1) X.A) (hg : Gl X x) (hm : X.mg x = some (.ref C)) (hb : Binds X.K fd ps []) (hx : ∀ σ, PassesAt CX X σ (E σ))
    (ha : PA X (e :: es) t) (hdb : (x == ("__debug__" : Str)) = false := by decide) (he : starEach (e :: es) X.env = (false, eval e X.env) :: starEach es X.env := by rfl) (hpl : (backTo pos (starEach es X.env)).any (·.1) = false := by rfl) :
    PE X (.Call (.Name x p) (e :: es) [] pos) (tMakeS C sp E t) := by
  refine ⟨fun pins s σ H Q I h => ?_⟩
  refine wpAny_Call_Name_kw (ld_glob I hg hm ?_ hdb)
  refine PySem.W.callWith_K (h₀ := X.base) I.ok.mod.kin M.kp (thn (ha.run pos pins s σ H _ I h) fun us s1 ⟨vs, H1, I1, r, q⟩ => ⟨I1.kIn, ?_⟩) he hpl
  exact run_makeS M F hr hb (hx σ) I1 r q
def tMethZ (C : Addr) (m : Str) (sp : Sp) (E : St → XK) (ta : TE) (t : TA) : TE := fun σ H Q => ta σ H fun x H1 => ∃ a dx fs, x = .ref a ∧ H1 a = some (.ins C dx fs) ∧ fs.lookup m = none ∧
  t σ H1 fun vs H2 => sp (x :: vs) H2 Q (E σ)
theorem pe_methZ {pl : Sem Bool} (he : PE X o ta) (c : Cls X.K C) (hm : Meth X.K C m f) (F : FnOk X.prog X.w X.K X.mg X.base CX k f fd ps sp) (hr : Room k X.A) (hb : Binds X.K fd ps []) (hx : ∀ σ, PassesAt CX X σ (E σ)) (ha : PA X (e :: es) t)
    (hst : starEach (e :: es) X.env = (false, eval e X.env) :: starEach es X.env := by rfl) (hpl : (backTo pos (starEach es X.env)).any (·.1) = false := by rfl)
    (ht : eval (.Call (.Attribute o m apos) (e :: es) [] pos) X.env = (do
      let ov ← eval o X.env
      standAt apos.atName
      let (f, first) ← holding [ov] (getMethod ov m pl)
      callWith pos f first (backTo pos (starEach (e :: es) X.env)) (backToKw pos (keywordEach [] X.env))) := by rfl) :
    PE X (.Call (.Attribute o m apos) (e :: es) [] pos) (tMethZ C m sp E ta t) := by
  refine ⟨fun pins s σ H Q I h => ?_⟩
  refine PySem.W.methodCall_KW (pl := pl) (thn (he.run pins s σ H _ I h) fun u s1 ⟨x, H1, I1, rx, a, dx, fs, ex, ea, l, q⟩ => ?_) ht
  subst ex
  obtain rfl : u = Value.ref a := rx
  refine getmeth_ok I1 ea c hm l ?_
  refine PySem.W.callWith_K (first := [.ref a]) (h₀ := X.base) I.ok.mod.kin hm.kp (thn (ha.run pos pins s1 σ H1 _ I1 q) fun us s2 ⟨vs, H2, I2, r, q2⟩ => ⟨I2.kIn, ?_⟩) hst hpl
  exact run_fnS (us := .ref a :: us) (vs := .ref a :: vs) F hr hb (hx σ) I2 (.cons rfl r) q2

/-! ### own operators -/
structure OwnBin (K : PySem.W.Frag) (C f : Addr) (op : Operator) : Prop where
  at_ : PySem.W.findIn K (.ref C) (PySem.dunder op.info.2) = some (some (.ref f))
  fn : PySem.W.isFn K (.ref f) = true
  self : PySem.W.selfFirst K C = true
  rc : ∃ rc, PySem.W.findIn K (.ref C) (dunderR op.info.2) = some rc ∧ (rc = none ∨ ∃ g : Addr, rc = some (.ref g))
  iF : ∃ fo, PySem.W.findIn K (.type "int") (PySem.dunder op.info.2) = some fo
  iR : ∃ ro, PySem.W.findIn K (.type "int") (dunderR op.info.2) = some ro
  sub : PySem.W.subIn K (.type "int") (.ref C) = some false
/-- x op y, x an instance of C; y one, too, or an int -/
def tOwn (C : Addr) (sp : Sp) (E : St → XK) (ta tb : TE) : TE := fun σ H Q => ta σ H fun x H1 => tb σ H1 fun y H2 => ∃ a dx fs, x = .ref a ∧ H2 a = some (.ins C dx fs) ∧
  ((∃ b dy gs, y = .ref b ∧ H2 b = some (.ins C dy gs)) ∨ ∃ i, y = .int i) ∧ sp [x, y] H2 Q (E σ)
theorem cmpBack_of {pins : List (Addr × Obj)} {σ : St} {Q : VK} {v : Value} {s' : Shared} (h : EP X pins σ Q v s') : PySem.W.CmpBack (EP X pins σ Q) v s' := by
  obtain ⟨x, H', I, r, q⟩ := h
  cases v <;> first | exact ⟨x, H', I, r, q⟩ | (exfalso; cases x <;> simp [RelV] at r)
theorem pe_own {op : Operator} (T : OwnBin X.K C f op) (F : FnOk X.prog X.w X.K X.mg X.base CX k f fd ps sp) (hr : Room k X.A) (hb : Binds X.K fd ps []) (hx : ∀ σ, PassesAt CX X σ (E σ)) (ha : PE X a ta) (hb' : PE X b tb) : PE X (.BinOp a op b pos) (tOwn C sp E ta tb) := by
  refine ⟨fun pins s σ H Q I h => ?_⟩
  refine wpAny_BinOp (binT ha hb' I h fun v u s2 x y H2 I2 rx ry q => ?_)
  obtain ⟨p, dx, fs, rfl, hp, hy, q⟩ := q
  obtain rfl : v = Value.ref p := rx
  obtain ⟨mA, J, _⟩ := ins_get I2.hok hp
  obtain ⟨od, J, _⟩ := J.look
  obtain ⟨m, hF⟩ := I2.fr
  have fin : wpAny (model X.prog X.w) X.A (call (.ref f) [.ref p, u]) (PySem.W.CmpBack (EP X pins σ Q)) X.xe s2 :=
    wpAny_mono (run_fnS (us := [.ref p, u]) (vs := [.ref p, y]) F hr hb (hx σ) I2 (.cons rfl (.cons ry .nil)) q) (fun _ _ z => cmpBack_of z) fun _ _ z => z
  rcases hy with ⟨b', dy, gs, rfl, hb2⟩ | ⟨i, rfl⟩
  · obtain rfl : u = Value.ref b' := ry
    obtain ⟨mB, J', _⟩ := ins_get I2.hok hb2
    obtain ⟨od', J', _⟩ := J'.look
    exact PySem.W.binop_K hF I2.ok.mod.kin J J'.type T.self T.at_ T.fn fin
  · obtain ⟨tk, rfl⟩ : ∃ t, u = Value.int i t := ry
    obtain ⟨rc, hrc, hp'⟩ := T.rc
    obtain ⟨fo, hfo⟩ := T.iF
    obtain ⟨ro, hro⟩ := T.iR
    exact PySem.W.ksp_binT (T := "int") hF I2.ok.mod.kin J rfl T.self T.at_ T.fn hrc hp' hfo hro T.sub fin
/-- -x -/
def tNegO (C : Addr) (sp : Sp) (E : St → XK) (ta : TE) : TE := fun σ H Q => ta σ H fun x H1 => ∃ a dx fs, x = .ref a ∧ H1 a = some (.ins C dx fs) ∧ sp [x] H1 Q (E σ)
theorem pe_negO (hs : PySem.W.findIn X.K (.ref C) "__neg__" = some (some (.ref f))) (hf : PySem.W.isFn X.K (.ref f) = true) (F : FnOk X.prog X.w X.K X.mg X.base CX k f fd ps sp) (hr : Room k X.A) (hb : Binds X.K fd ps []) (hx : ∀ σ, PassesAt CX X σ (E σ)) (ha : PE X a ta) : PE X (.UnaryOp .USub a pos) (tNegO C sp E ta) := by
  refine ⟨fun pins s σ H Q I h => ?_⟩
  refine UnaryOp_ (thn (ha.run pins s σ H _ I h) fun v s1 ⟨x, H1, I1, r1, p, dx, fs, ex, hp, q1⟩ => ?_)
  subst ex
  obtain rfl : v = Value.ref p := r1
  obtain ⟨mA, J, _⟩ := ins_get I1.hok hp
  obtain ⟨od, J, _⟩ := J.look
  obtain ⟨m, hF⟩ := I1.fr
  exact PySem.W.ksp_neg hF I1.ok.mod.kin J hs hf (run_fnS (us := [.ref p]) (vs := [.ref p]) F hr hb (hx σ) I1 (.cons rfl .nil) q1)

/-! ### x op y, x an int, y an instance of C -/
structure OwnBinR (K : PySem.W.Frag) (C f g : Addr) (op : Operator) : Prop where
  at_ : PySem.W.findIn K (.ref C) (PySem.dunder op.info.2) = some (some (.ref g))
  atR : PySem.W.findIn K (.ref C) (dunderR op.info.2) = some (some (.ref f))
  fn : PySem.W.isFn K (.ref f) = true
  self : PySem.W.selfFirst K C = true
  sub : PySem.W.subIn K (.ref C) (.type "int") = some false
  eqv : True := trivial
/-- what the int's own method does of an instance: it declines -/
def Declines (op : Operator) : Prop := ∃ (id : String) (B : Builtin), fillsNumberSlot (.type "int") op.info.2 = pure true ∧ Slot "int" (PySem.dunder op.info.2) id ∧ entryFor table id = some B ∧ (∀ a b : Value, argsOk id ⟨[a, b], []⟩) ∧
  ∀ (M : Model) (A : Around) (E : Value → Shared → Prop) (s : Shared) (i : Int) (t : Tok) (b : Addr) (o : Obj), s.heap.get? b = some o → o.data = .plain → wpAny M A (B ⟨[.int i t, .ref b], []⟩) (fun fin s' => ∃ v, fin = .done (.ret v) ∧ v = .notImplemented ∧ s' = s) E s
theorem declines_mul : Declines .Mult := by
  refine ⟨_, _, F.fills_int_mul, F.slot_int_mul, F.entry_int_mul, F.args_int_mul_2, fun M A E s i t b o ho hd => ?_⟩
  obtain ⟨h, g, d, tk, os⟩ := s
  unfold Builtin.«int.__mul__» Builtin.Int.intBinary
  refine wpAny_bind (wpAny_of_eq (a := (.int i t, [.ref b])) rfl ?_)
  refine wpAny_bind (wpAny_of_eq (a := i) rfl ?_)
  refine wpAny_bind (m := asInt? (.ref b)) ?_
  unfold asInt?
  refine wpAny_bind (wpAny_load ho ?_)
  rw [hd]
  exact wpAny_pure (wpAny_bind (wpAny_rule (wpAny_pure ⟨_, rfl, rfl, rfl⟩)))
theorem declines_add : Declines .Add := by
  refine ⟨_, _, F.fills_int_add, F.slot_int_add, F.entry_int_add, F.args_int_add_2, fun M A E s i t b o ho hd => ?_⟩
  obtain ⟨h, g, d, tk, os⟩ := s
  unfold Builtin.«int.__add__» Builtin.Int.intBinary
  refine wpAny_bind (wpAny_of_eq (a := (.int i t, [.ref b])) rfl ?_)
  refine wpAny_bind (wpAny_of_eq (a := i) rfl ?_)
  refine wpAny_bind (m := asInt? (.ref b)) ?_
  unfold asInt?
  refine wpAny_bind (wpAny_load ho ?_)
  rw [hd]
  exact wpAny_pure (wpAny_bind (wpAny_rule (wpAny_pure ⟨_, rfl, rfl, rfl⟩)))
theorem declines_sub : Declines .Sub := by
  refine ⟨_, _, F.fills_int_sub, F.slot_int_sub, F.entry_int_sub, F.args_int_sub_2, fun M A E s i t b o ho hd => ?_⟩
  obtain ⟨h, g, d, tk, os⟩ := s
  unfold Builtin.«int.__sub__» Builtin.Int.intBinary
  refine wpAny_bind (wpAny_of_eq (a := (.int i t, [.ref b])) rfl ?_)
  refine wpAny_bind (wpAny_of_eq (a := i) rfl ?_)
  refine wpAny_bind (m := asInt? (.ref b)) ?_
  unfold asInt?
  refine wpAny_bind (wpAny_load ho ?_)
  rw [hd]
  exact wpAny_pure (wpAny_bind (wpAny_rule (wpAny_pure ⟨_, rfl, rfl, rfl⟩)))
theorem binR {prog : Program} {w : World} {A : Around} {E : Value → Shared → Prop} {s : Shared} {K : PySem.W.Frag} {x L : Addr} {h₀ : Heap} {m : Str → Option Value} {ox : Obj} {od : Option Obj} {op : Operator} {i : Int} {t : Tok} {g : Addr} {Q : Value → Shared → Prop} (D : Declines op)
    (Fr : Fr h₀ L s.heap m) (X₀ : K.In h₀) (I : PySem.W.InstAt s.heap x ox C od) (hpl : ox.data = .plain) (T : OwnBinR K C f g op)
    (h : wpAny (model prog w) A (call (.ref f) [.ref x, .int i t]) (PySem.W.CmpBack Q) E s) : wpAny (model prog w) A (binaryOp op (.int i t) (.ref x)) Q E s := by
  have X := X₀.keeps Fr.keep
  obtain ⟨cd, rest, hcd, hm⟩ := PySem.W.ksp_first T.self
  obtain ⟨id, B, hfl, hsl, hen, har, hB⟩ := D
  have hs := T.at_
  have hs2 := T.atR
  rcases hi : op.info with ⟨sym, nm⟩
  rw [hi] at hfl hsl hs hs2
  dsimp only at hfl hsl hs hs2
  have one := PySem.W.ksp_try X I hs2 T.fn h
  simp only [binaryOp, hi]
  refine wpAny_holding (wpAny_bind ?_)
  unfold binaryOp1
  refine wpAny_bind (wpAny_typeOf (T := "int") rfl (wpAny_bind (I.type.at (wpAny_bind (wpAny_of_eq hfl ?_)))))
  have hne : (Value.type "int" == Value.ref C) = false := Bool.eq_false_iff.mpr fun q => by cases beq_iff_eq.mp q
  simp only [hne, Bool.false_eq_true, if_false]
  refine wpAny_bind ((PySem.W.fills_K X hcd hm hs).at ?_)
  simp only [Bool.and_self, if_true]
  refine wpAny_bind ((PySem.W.looks_subIn X T.sub).at ?_)
  have hpy : numberSlotInPython (.type "int") nm = pure false := rfl
  simp only [Bool.false_eq_true, if_false, pure_bind, Bool.not_false, Bool.and_self, if_true, hpy]
  refine wpAny_bind (wpAny_tryMethod_declines (T := "int") rfl hsl (wpAny_call_entry hsl rfl hen (wpAny_mono (hB _ _ E _ i t x ox I.at_ hpl) (fun fin s' z => ?_) fun _ _ z => z) (har _ _)))
  obtain ⟨v, rfl, rfl, rfl⟩ := z
  refine ⟨_, rfl, rfl, ?_⟩
  dsimp only
  refine wpAny_bind (wpAny_mono one (fun r s' hr' => ?_) fun _ _ e => e)
  obtain ⟨v, rfl, hq⟩ := hr'
  exact wpAny_bind (wpAny_rule (wpAny_pure (wpAny_pure hq)))
/-- x op y, x an int, y an instance of C: y's reflected method -/
def tOwnR (C : Addr) (sp : Sp) (E : St → XK) (ta tb : TE) : TE := fun σ H Q => ta σ H fun x H1 => tb σ H1 fun y H2 => ∃ a dx fs i, y = .ref a ∧ H2 a = some (.ins C dx fs) ∧ x = .int i ∧ sp [y, x] H2 Q (E σ)
theorem pe_ownR {op : Operator} {g : Addr} (D : Declines op) (T : OwnBinR X.K C f g op) (F : FnOk X.prog X.w X.K X.mg X.base CX k f fd ps sp) (hr : Room k X.A) (hb : Binds X.K fd ps []) (hx : ∀ σ, PassesAt CX X σ (E σ)) (ha : PE X a ta) (hb' : PE X b tb) : PE X (.BinOp a op b pos) (tOwnR C sp E ta tb) := by
  refine ⟨fun pins s σ H Q I h => ?_⟩
  refine wpAny_BinOp (binT ha hb' I h fun v u s2 x y H2 I2 rx ry q => ?_)
  obtain ⟨p, dx, fs, i, rfl, hp, rfl, q⟩ := q
  obtain rfl : u = Value.ref p := ry
  obtain ⟨tk, rfl⟩ : ∃ t, v = Value.int i t := rx
  obtain ⟨mA, J, _⟩ := ins_get I2.hok hp
  obtain ⟨od, J, _⟩ := J.look
  obtain ⟨m, hF⟩ := I2.fr
  exact binR D hF I2.ok.mod.kin J rfl T (wpAny_mono (run_fnS (us := [.ref p, .int i tk]) (vs := [.ref p, .int i]) F hr hb (hx σ) I2 (.cons rfl (.cons ⟨_, rfl⟩ .nil)) q) (fun _ _ z => cmpBack_of z) fun _ _ z => z)

/-! ### f(e, ..), f an instance of C with its own __call__ -/
def tCallI (C : Addr) (sp : Sp) (E : St → XK) (tf : TE) (t : TA) : TE := fun σ H Q => tf σ H fun y H1 => ∃ a, y = V.ref a ∧ t σ H1 fun vs H2 => (∃ dx fs, H2 a = some (.ins C dx fs)) ∧ sp (V.ref a :: vs) H2 Q (E σ)
theorem pe_callI {g : Addr} {fe : Expr} {tf : TE} (hf : PE X fe tf) (c : StX.CallO X.K C g) (F : FnOk X.prog X.w X.K X.mg X.base CX k g fd ps sp) (hr : Room k X.A) (hb : Binds X.K fd ps []) (hx : ∀ σ, PassesAt CX X σ (E σ)) (ha : PA X (e :: es) t)
    (ht : eval (.Call fe (e :: es) [] pos) X.env = (do callWith pos (← eval fe X.env) [] (backTo pos (starEach (e :: es) X.env)) (backToKw pos (keywordEach [] X.env))) := by rfl)
    (he : starEach (e :: es) X.env = (false, eval e X.env) :: starEach es X.env := by rfl) (hpl : (backTo pos (starEach es X.env)).any (·.1) = false := by rfl) : PE X (.Call fe (e :: es) [] pos) (tCallI C sp E tf t) := by
  refine ⟨fun pins s σ H Q I h => ?_⟩
  refine Call_ (thn (hf.run pins s σ H _ I h) fun u s1 ⟨y, H1, I1, ry, a, ey, q⟩ => ?_) ht
  subst ey
  obtain rfl : u = Value.ref a := ry
  refine StX.callO_with (thn (ha.run pos pins s1 σ H1 _ I1 q) fun us s2 ⟨vs, H2, I2, r, hi, q2⟩ => ?_) he hpl
  obtain ⟨ox, od, J, hd⟩ := StX.insC_at (C := C) I2 (.inr hi)
  have hl : (Value.ref a :: us).length = ps.length := by
    have r2 : Vals (V.ref a :: vs) (Value.ref a :: us) := .cons rfl r
    rw [← r2.length]; exact F.len _ _ _ _ q2
  have b := hb s2 (.ref a :: us) I2.kIn (by rw [List.append_nil]; exact hl)
  rw [List.append_nil] at b
  refine ⟨⟨C, ox, od, J, hd⟩, wpAny_call (PySem.W.kco_code I2.kIn J hd c.at_ c.fn c.fi (codeAny_mono (F.run X.A X.stack s2 H2 ⟨.ref a :: us, []⟩ (.ref a :: us) (.ref a :: vs) Q (E σ) hr I2.env0 b (.cons rfl r) q2) fun r s' hq => ?_))⟩
  cases r with
  | error e => exact hx σ pins H2 s2 e s' I2 hq
  | ok fl =>
    cases fl with
    | ret u => exact I2.after hq
    | next => exact False.elim hq
    | brk => exact False.elim hq
    | cont => exact False.elim hq

/-! ### x == y, x an instance of C with its own __eq__, y anything -/
def rEqO (K : PySem.W.Frag) (C : Addr) (sp : Sp) : R2 := fun x y H Q => ∃ a dx fs t, x = .ref a ∧ H a = some (.ins C dx fs) ∧ TyX K H y t ∧ PySem.W.notFirst K C t = true ∧ sp [x, y] H Q E0
theorem op_eqO (hs : PySem.W.findIn X.K (.ref C) "__eq__" = some (some (.ref f))) (hf : PySem.W.isFn X.K (.ref f) = true) (F : FnOk X.prog X.w X.K X.mg X.base CX k f fd ps sp) (hr : Room k X.A) (hb : Binds X.K fd ps []) (hx : ∀ σ, PassesAt CX X σ E0) : OpR X (compareOp .Eq) (rEqO X.K C sp) := by
  intro pins s σ H x y v u Q I rx ry hq
  obtain ⟨p, dx, fs, t, rfl, hp, ty, hn, q⟩ := hq
  obtain rfl : v = Value.ref p := rx
  obtain ⟨mA, J, _⟩ := ins_get I.hok hp
  obtain ⟨od, J, _⟩ := J.look
  obtain ⟨m, hF⟩ := I.fr
  show wpAny (model X.prog X.w) X.A (richCompare .Eq (.ref p) u) (EP X pins σ Q) X.xe s
  obtain ⟨P, kx, hP, hne⟩ := kit_of I ry ty
  refine PySem.W.cmp_K (op := .Eq) (tb := t) hr.units0 hF I.ok.mod.kin J ?_ hn hs hf (wpAny_mono (run_fnS (E := fun _ => E0) (us := [.ref p, u]) (vs := [.ref p, y]) F hr hb (hx σ) I (.cons rfl (.cons ry .nil)) q) (fun _ _ z => cmpBack_of z) fun _ _ z => z)
  exact kx.ty _ _ I.kIn hP
end
end L2
namespace G
open PySem PySem.Spec PyProof.Rows L2

/-! ### heaps -/
/-- all but dicts is as it was -/
def Kp (H H' : Hp) : Prop := ∀ a o, H a = some o → (∀ kvs, o ≠ .dK kvs) → H' a = some o
theorem Kp.refl (H : Hp) : Kp H H := fun _ _ h _ => h
theorem Kp.trans {H H1 H2 : Hp} (a : Kp H H1) (b : Kp H1 H2) : Kp H H2 := fun x o h n => b x o (a x o h n) n
theorem Kp.of {H H' : Hp} (s : Same H H') : Kp H H' := fun a o h _ => s a o h
theorem Kp.then {H H1 H2 : Hp} (a : Kp H H1) (b : Same H1 H2) : Kp H H2 := a.trans (Kp.of b)
theorem sget {H H' : Hp} {a : Addr} {o : HO} (s : Same H H') (h : H a = some o) : H' a = some o := s a o h
theorem kget {H H' : Hp} {a : Addr} {o : HO} (s : Kp H H') (h : H a = some o) (n : ∀ kvs, o ≠ .dK kvs) : H' a = some o := s a o h n
theorem same_new {H : Hp} {p : Addr} {o : HO} (h : H p = none) : Same H (upd H p o) := fun a u e => by
  rw [upd_ne (ne_of_none e h)]
  exact e
theorem upd_upd {H : Hp} {p : Addr} {o u : HO} : upd (upd H p o) p u = upd H p u := by
  funext b
  by_cases h : b = p
  · rw [h, upd_same, upd_same]
  · rw [upd_ne h, upd_ne h, upd_ne h]
theorem seqL {K : PySem.W.Frag} {H : Hp} {a : Addr} {xs : List V} (h : H a = some (.lst xs)) : SqL K H a xs := SqL.of h
theorem seqT {K : PySem.W.Frag} {H : Hp} {a : Addr} {xs : List V} (h : H a = some (.tup xs)) : SqT K H a xs := SqT.of h

/-! ### named readings -/
def rAbs : List V → Hp → VK → Prop := fun xs H Q => ∃ i, xs = [.int i] ∧ Q (.int (if i < 0 then -i else i)) H
def rMax2 : List V → Hp → VK → Prop := fun xs H Q => ∃ i j, xs = [.int i, .int j] ∧ Q (.int (if j > i then j else i)) H
def rMin2 : List V → Hp → VK → Prop := fun xs H Q => ∃ i j, xs = [.int i, .int j] ∧ Q (.int (if j < i then j else i)) H
def rInt1 : List V → Hp → VK → Prop := fun xs H Q => (∃ i, xs = [.int i] ∧ Q (.int i) H) ∨ ∃ k, xs = [.bl k] ∧ Q (.int (if k then 1 else 0)) H
def rStrI : List V → Hp → VK → Prop := fun xs H Q => ∃ i, xs = [.int i] ∧ i.natAbs.log2 < 1920 ∧ Q (.str (toString i)) H
def rLenSeq (K : PySem.W.Frag) : List V → Hp → VK → Prop := fun xs H Q => ∃ p ys, xs = [.ref p] ∧ (SqL K H p ys ∨ SqT K H p ys) ∧ Q (.int ys.length) H
def rLenStr : List V → Hp → VK → Prop := fun xs H Q => ∃ z, xs = [.str z] ∧ z.length ≤ sizeLine ∧ Q (.int z.length) H
def rListOf (K : PySem.W.Frag) : List V → Hp → VK → Prop := fun xs H Q => ∃ p ys, xs = [.ref p] ∧ (SqL K H p ys ∨ SqT K H p ys) ∧ ∀ l, H l = none → Q (.ref l) (upd H l (.lst ys))
def rTupleOf (K : PySem.W.Frag) : List V → Hp → VK → Prop := fun xs H Q => ∃ p ys, xs = [.ref p] ∧ ((SqL K H p ys ∧ ∀ l, H l = none → Q (.ref l) (upd H l (.tup ys))) ∨ (SqT K H p ys ∧ Q (.ref p) H))
def rIsN : R2 := fun x y H Q => y = .non ∧ Q (.bl (decide (x = .non))) H
def rNotN : R2 := fun x y H Q => y = .non ∧ Q (.bl (!decide (x = .non))) H
section
variable {X : Cx}
theorem cAbs : CallR X (.builtin "abs") rAbs := call_abs
theorem cMax2 (hc : X.calm = true) : CallR X (.builtin "max") rMax2 := call_max2 hc
theorem cMin2 (hc : X.calm = true) : CallR X (.builtin "min") rMin2 := call_min2 hc
theorem cInt1 : CallR X (.type "int") rInt1 := call_int1
theorem cStrI : CallR X (.type "str") rStrI := call_str_int
theorem cLenSeq : CallR X (.builtin "len") (rLenSeq X.K) := call_len_seq
theorem cLenStr : CallR X (.builtin "len") rLenStr := call_len_str
theorem cListOf : CallR X (.type "list") (rListOf X.K) := call_list_of
theorem cTupleOf : CallR X (.type "tuple") (rTupleOf X.K) := call_tuple_of
theorem oIsN : OpR X (compareOp .Is) rIsN := op_isN
theorem oNotN : OpR X (compareOp .IsNot) rNotN := op_notN
end

/-! ### expressions -/
def rNewT (xs : List V) (H : Hp) (Q : VK) : Prop := xs.length ≤ sizeLine ∧ ∀ p, H p = none → Q (.ref p) (upd H p (.tup xs))
def rNewL (xs : List V) (H : Hp) (Q : VK) : Prop := xs.length ≤ sizeLine ∧ ∀ p, H p = none → Q (.ref p) (upd H p (.lst xs))
def rFld (K : PySem.W.Frag) (f : Str) (x : V) (H1 : Hp) (Q : VK) : Prop := ∃ a C dx fs v, x = .ref a ∧ H1 a = some (.ins C dx fs) ∧ Cls K C ∧ NoAttr K C f ∧ fs.lookup f = some v ∧ Q v H1
def rFldS (K : PySem.W.Frag) (f : Str) (y x : V) (H2 : Hp) (k : Hp → Prop) : Prop := ∃ a C dx fs, x = .ref a ∧ H2 a = some (.ins C dx fs) ∧ Cls K C ∧ NoAttr K C f ∧ fs.length < 1000 ∧ k (upd H2 a (.ins C dx (putF f y fs)))
def rDGet (x y : V) (H2 : Hp) (Q : VK) : Prop := ∃ a v, x = .ref a ∧ DGet H2 a y (some v) ∧ Q v H2
def rDPut (v x y : V) (H3 : Hp) (k : Hp → Prop) : Prop := ∃ a H4, x = .ref a ∧ DPut H3 a y v H4 ∧ k H4
def rMake (C : Addr) (sp : Sp) (E : XK) (vs : List V) (H1 : Hp) (Q : VK) : Prop := ∀ x dx, H1 x = none → H1 dx = none → dx ≠ x → sp (.ref x :: vs) (upd (upd H1 dx (.own x)) x (.ins C dx [])) (fun v H2 => v = .non ∧ Q (.ref x) H2) E
section
variable {K : PySem.W.Frag} {σ : L2.St} {H : Hp} {Q : VK} {ta tb tc te : TE} {t u : TT} {tr : TA} {i : Nat} {v x y : V} {a b : Int} {r : R2}
theorem var (h : σ[i]? = some (some v)) (q : Q v H) : tVar i σ H Q := ⟨v, h, q⟩
theorem cst (q : Q v H) : tC v σ H Q := q
theorem op (q : ta σ H fun x H1 => tb σ H1 fun y H2 => r x y H2 Q) : tOp r ta tb σ H Q := q
theorem un {r : V → Hp → VK → Prop} (q : ta σ H fun x H1 => r x H1 Q) : tUn r ta σ H Q := q
theorem I0 {g : Int → Int → V} (q : Q (g a b) H) : rI0 g (.int a) (.int b) H Q := ⟨a, b, rfl, rfl, q⟩
theorem I1 {C : Int → Int → Prop} {g : Int → Int → V} (c : C a b) (q : Q (g a b) H) : rI C g (.int a) (.int b) H Q := ⟨a, b, rfl, rfl, c, q⟩
theorem mulL {g : Int → Int → V} (h1 : -18446744073709551616 < a) (h2 : a < 18446744073709551616) (q : Q (g a b) H) : rI CMul g (.int a) (.int b) H Q := ⟨a, b, rfl, rfl, .inl ⟨h1, h2⟩, q⟩
theorem mulR {g : Int → Int → V} (h1 : -18446744073709551616 < b) (h2 : b < 18446744073709551616) (q : Q (g a b) H) : rI CMul g (.int a) (.int b) H Q := ⟨a, b, rfl, rfl, .inr ⟨h1, h2⟩, q⟩
theorem fdiv {g : Int → Int → V} (h1 : 0 < b) (h2 : b < 1073741824) (q : Q (g a b) H) : rI CDiv g (.int a) (.int b) H Q := ⟨a, b, rfl, rfl, ⟨h1, h2⟩, q⟩
theorem md {g : Int → Int → V} (h1 : 0 < b) (q : Q (g a b) H) : rI (fun _ j => 0 < j) g (.int a) (.int b) H Q := ⟨a, b, rfl, rfl, h1, q⟩
theorem pow {g : Int → Int → V} (h0 : 0 ≤ b) (h1 : b ≤ 1000000) (h2 : a.natAbs < 2 ^ 64) (q : Q (g a b) H) : rI CPow g (.int a) (.int b) H Q := ⟨a, b, rfl, rfl, ⟨h0, h1, h2⟩, q⟩
theorem pow18 (q : Q (.int 1000000000000000000) H) : rI CPow (fun i j => .int (i ^ j.toNat)) (.int 10) (.int 18) H Q := ⟨10, 18, rfl, rfl, ⟨by decide, by decide, by decide⟩, q⟩
theorem pow6 (q : Q (.int 1000000) H) : rI CPow (fun i j => .int (i ^ j.toNat)) (.int 10) (.int 6) H Q := ⟨10, 6, rfl, rfl, ⟨by decide, by decide, by decide⟩, q⟩
theorem pow30 (q : Q (.int 1000000000000000000000000000000) H) : rI CPow (fun i j => .int (i ^ j.toNat)) (.int 10) (.int 30) H Q := ⟨10, 30, rfl, rfl, ⟨by decide, by decide, by decide⟩, q⟩
theorem pow29 (q : Q (.int 100000000000000000000000000000) H) : rI CPow (fun i j => .int (i ^ j.toNat)) (.int 10) (.int 29) H Q := ⟨10, 29, rfl, rfl, ⟨by decide, by decide, by decide⟩, q⟩
theorem pow3 (q : Q (.int 1000) H) : rI CPow (fun i j => .int (i ^ j.toNat)) (.int 10) (.int 3) H Q := ⟨10, 3, rfl, rfl, ⟨by decide, by decide, by decide⟩, q⟩
theorem U1 {g : Int → V} (q : Q (g a) H) : rU g (.int a) H Q := ⟨a, rfl, q⟩
theorem eq (s : scal x y = true) (q : Q (.bl (decide (x = y))) H) : rEq x y H Q := ⟨s, q⟩
theorem ne (s : scal x y = true) (q : Q (.bl (!decide (x = y))) H) : rNe x y H Q := ⟨s, q⟩
theorem dint : decide (V.int a = V.int b) = decide (a = b) := by
  by_cases h : a = b
  · simp [h]
  · simp [h]
theorem eqI (q : Q (.bl (decide (a = b))) H) : rEq (.int a) (.int b) H Q := ⟨rfl, by rw [dint]; exact q⟩
theorem neI (q : Q (.bl (!decide (a = b))) H) : rNe (.int a) (.int b) H Q := ⟨rfl, by rw [dint]; exact q⟩
theorem isN (q : Q (.bl (decide (x = .non))) H) : rIsN x .non H Q := ⟨rfl, q⟩
theorem notN (q : Q (.bl (!decide (x = .non))) H) : rNotN x .non H Q := ⟨rfl, q⟩
theorem test {Q : Bool → Hp → Prop} (q : te σ H fun x H' => ∃ k, x = .bl k ∧ Q k H') : tTest te σ H Q := q
theorem tBv {Q : Bool → Hp → Prop} (q : te σ H fun x H' => ∃ k, x = .bl k ∧ Q k H') : tB te σ H Q := q
theorem bl {Q : Bool → Prop} {k : Bool} (q : Q k) : ∃ c, (V.bl k) = .bl c ∧ Q c := ⟨k, rfl, q⟩
theorem and {Q : Bool → Hp → Prop} (q : t σ H fun c H1 => if c = true then u σ H1 Q else Q false H1) : tAnd t u σ H Q := q
theorem or {Q : Bool → Hp → Prop} (q : t σ H fun c H1 => if c = true then Q true H1 else u σ H1 Q) : tOr t u σ H Q := q
theorem not {Q : Bool → Hp → Prop} (q : t σ H fun c H1 => Q (!c) H1) : tNot t σ H Q := q
theorem andV (q : ta σ H fun x H1 => ∃ c, x = .bl c ∧ if c = true then tb σ H1 Q else Q (.bl false) H1) : tAndV ta tb σ H Q := q
theorem orV (q : ta σ H fun x H1 => ∃ c, x = .bl c ∧ if c = true then Q (.bl true) H1 else tb σ H1 Q) : tOrV ta tb σ H Q := q
theorem notV (q : ta σ H fun x H1 => ∃ c, x = .bl c ∧ Q (.bl (!c)) H1) : tNotV ta σ H Q := q
theorem ifE (q : t σ H fun c H1 => if c = true then ta σ H1 Q else tb σ H1 Q) : tIf t ta tb σ H Q := q
theorem nil {Q : List V → Hp → Prop} (q : Q [] H) : tNil σ H Q := q
theorem cons {Q : List V → Hp → Prop} (q : ta σ H fun x H1 => tr σ H1 fun xs H2 => Q (x :: xs) H2) : tCons ta tr σ H Q := q
theorem tup (q : tr σ H fun xs H1 => rNewT xs H1 Q) : tTup tr σ H Q := q
theorem lst (q : tr σ H fun xs H1 => rNewL xs H1 Q) : tLst tr σ H Q := q
theorem newT {xs : List V} (h : xs.length ≤ 100000) (q : ∀ p H2, H p = none → Same H H2 → H2 p = some (.tup xs) → Q (.ref p) H2) : rNewT xs H Q := ⟨Nat.le_trans h (by decide), fun p hp => q p _ hp (same_new hp) upd_same⟩
theorem newL {xs : List V} (h : xs.length ≤ 100000) (q : ∀ p H2, H p = none → Same H H2 → H2 p = some (.lst xs) → Q (.ref p) H2) : rNewL xs H Q := ⟨Nat.le_trans h (by decide), fun p hp => q p _ hp (same_new hp) upd_same⟩
theorem fld {f : Str} (q : ta σ H fun x H1 => rFld K f x H1 Q) : tFld K ta f σ H Q := q
theorem fldV {f : Str} {p C dx : Addr} {fs : List (Str × V)} (h : H p = some (.ins C dx fs)) (c : Cls K C) (n : NoAttr K C f) (l : fs.lookup f = some v) (q : Q v H) : rFld K f (.ref p) H Q := ⟨p, C, dx, fs, v, rfl, h, c, n, l, q⟩
theorem call {sp : Sp} {E : L2.St → XK} (q : tr σ H fun vs H1 => sp vs H1 Q (E σ)) : tCallS sp E tr σ H Q := q
theorem cb {r : List V → Hp → VK → Prop} (q : tr σ H fun vs H1 => r vs H1 Q) : tCB r tr σ H Q := q
theorem make {C : Addr} {sp : Sp} {E : L2.St → XK} (q : tr σ H fun vs H1 => rMake C sp (E σ) vs H1 Q) : tMakeS C sp E tr σ H Q := q
theorem dget (q : ta σ H fun x H1 => tb σ H1 fun y H2 => rDGet x y H2 Q) : tDGet ta tb σ H Q := q
theorem dgetS {p : Addr} {kvs : List (Key × V)} {k : Str} (h : H p = some (.dK kvs)) (l : valV kvs (Sum.inr k) = some v) (q : Q v H) : rDGet (.ref p) (.str k) H Q := ⟨p, v, rfl, l ▸ DGet.k (k := Sum.inr k) h, q⟩
theorem abs (q : Q (.int a.natAbs) H) : rAbs [.int a] H Q := ⟨a, rfl, by
  have e : (if a < 0 then -a else a) = (a.natAbs : Int) := by
    split <;> omega
  rw [e]; exact q⟩
theorem max2 (q : Q (.int (max a b)) H) : rMax2 [.int a, .int b] H Q := ⟨a, b, rfl, by
  have e : (if b > a then b else a) = max a b := by
    split <;> omega
  rw [e]; exact q⟩
theorem min2 (q : Q (.int (min a b)) H) : rMin2 [.int a, .int b] H Q := ⟨a, b, rfl, by
  have e : (if b < a then b else a) = min a b := by
    split <;> omega
  rw [e]; exact q⟩
theorem int1 (q : Q (.int a) H) : rInt1 [.int a] H Q := .inl ⟨a, rfl, q⟩
theorem strI (h : a.natAbs.log2 < 1920) (q : Q (.str (toString a)) H) : rStrI [.int a] H Q := ⟨a, rfl, h, q⟩
theorem lenL {p : Addr} {xs : List V} (h : H p = some (.lst xs)) (q : Q (.int xs.length) H) : rLenSeq K [.ref p] H Q := ⟨p, xs, rfl, .inl (SqL.of h), q⟩
theorem lenT {p : Addr} {xs : List V} (h : H p = some (.tup xs)) (q : Q (.int xs.length) H) : rLenSeq K [.ref p] H Q := ⟨p, xs, rfl, .inr (SqT.of h), q⟩
theorem lenS {z : Str} (h : z.length ≤ 100000) (q : Q (.int z.length) H) : rLenStr [.str z] H Q := ⟨z, rfl, Nat.le_trans h (by decide), q⟩
theorem listOfL {p : Addr} {xs : List V} (h : H p = some (.lst xs)) (q : ∀ l H2, H l = none → Same H H2 → H2 l = some (.lst xs) → Q (.ref l) H2) : rListOf K [.ref p] H Q := ⟨p, xs, rfl, .inl (SqL.of h), fun l hl => q l _ hl (same_new hl) upd_same⟩
theorem listOfT {p : Addr} {xs : List V} (h : H p = some (.tup xs)) (q : ∀ l H2, H l = none → Same H H2 → H2 l = some (.lst xs) → Q (.ref l) H2) : rListOf K [.ref p] H Q := ⟨p, xs, rfl, .inr (SqT.of h), fun l hl => q l _ hl (same_new hl) upd_same⟩
theorem tupleOfL {p : Addr} {xs : List V} (h : H p = some (.lst xs)) (q : ∀ l H2, H l = none → Same H H2 → H2 l = some (.tup xs) → Q (.ref l) H2) : rTupleOf K [.ref p] H Q := ⟨p, xs, rfl, .inl ⟨SqL.of h, fun l hl => q l _ hl (same_new hl) upd_same⟩⟩
theorem tupleOfT {p : Addr} {xs : List V} (h : H p = some (.tup xs)) (q : Q (.ref p) H) : rTupleOf K [.ref p] H Q := ⟨p, xs, rfl, .inr ⟨SqT.of h, q⟩⟩
theorem ixL {p : Addr} {xs : List V} (h : H p = some (.lst xs)) (l : atI xs a = some v) (q : Q v H) : rIxL K (.ref p) (.int a) H Q := ⟨p, xs, a, v, rfl, rfl, SqL.of h, l, q⟩
theorem ixT {p : Addr} {xs : List V} (h : H p = some (.tup xs)) (l : atI xs a = some v) (q : Q v H) : rIxT K (.ref p) (.int a) H Q := ⟨p, xs, a, v, rfl, rfl, SqT.of h, l, q⟩
theorem own {C : Addr} {sp : Sp} {E : L2.St → XK} (q : ta σ H fun x H1 => tb σ H1 fun y H2 => ∃ a dx fs, x = .ref a ∧ H2 a = some (.ins C dx fs) ∧ ((∃ b dy gs, y = .ref b ∧ H2 b = some (.ins C dy gs)) ∨ ∃ i, y = .int i) ∧ sp [x, y] H2 Q (E σ)) : tOwn C sp E ta tb σ H Q := q
theorem ownR {C : Addr} {sp : Sp} {E : L2.St → XK} (q : ta σ H fun x H1 => tb σ H1 fun y H2 => ∃ a dx fs i, y = .ref a ∧ H2 a = some (.ins C dx fs) ∧ x = .int i ∧ sp [y, x] H2 Q (E σ)) : tOwnR C sp E ta tb σ H Q := q
theorem inst {C : Addr} {sp : Sp} {E : L2.St → XK} (q : ta σ H fun y H1 => ∃ a, y = V.ref a ∧ tr σ H1 fun vs H2 => (∃ dx fs, H2 a = some (.ins C dx fs)) ∧ sp (V.ref a :: vs) H2 Q (E σ)) : tCallI C sp E ta tr σ H Q := q
theorem refV {p : Addr} {f : Addr → Prop} (q : f p) : ∃ a, V.ref p = V.ref a ∧ f a := ⟨p, rfl, q⟩
def rXf (ea : Addr) (cls : Value) (d : Option Addr) (C : Addr) (f : Str) (x : V) (H1 : Hp) (Q : VK) : Prop := x = .ref ea ∧ cls = .ref C ∧ ∃ (dd : Addr) (fs : List (Str × V)) (v : V), d = some dd ∧ H1 dd = some (.xd fs) ∧ fs.lookup f = some v ∧ Q v H1
theorem xf {ea C : Addr} {cls : Value} {d : Option Addr} {f : Str} (q : te σ H fun x H1 => rXf ea cls d C f x H1 Q) : tXf ea cls d C f te σ H Q := q
theorem xfV {ea C dd : Addr} {f : Str} {fs : List (Str × V)} (h : H dd = some (.xd fs)) (l : fs.lookup f = some v) (q : Q v H) : rXf ea (.ref C) (some dd) C f (.ref ea) H Q := ⟨rfl, rfl, dd, fs, v, rfl, h, l, q⟩
theorem meth {C : Addr} {m : Str} {sp : Sp} {E : L2.St → XK} (q : ta σ H fun x H1 => ∃ a dx fs, x = .ref a ∧ H1 a = some (.ins C dx fs) ∧ fs.lookup m = none ∧ tr σ H1 fun vs H2 => sp (x :: vs) H2 Q (E σ)) : tMethZ C m sp E ta tr σ H Q := q

/-! ### tests -/
theorem ite {c : Prop} [Decidable c] {A B : Prop} (h1 : c → A) (h2 : ¬ c → B) : if decide c = true then A else B := by
  by_cases h : c
  · rw [if_pos (decide_eq_true h)]; exact h1 h
  · rw [if_neg (by simp [h])]; exact h2 h
theorem iteN {c : Prop} [Decidable c] {A B : Prop} (h1 : c → B) (h2 : ¬ c → A) : if (!decide c) = true then A else B := by
  by_cases h : c
  · rw [if_neg (by simp [h])]; exact h1 h
  · rw [if_pos (by simp [h])]; exact h2 h
theorem iteY {c : Prop} [Decidable c] {A B : Prop} (h : c) (q : A) : if decide c = true then A else B := by
  rw [if_pos (decide_eq_true h)]; exact q
theorem iteZ {c : Prop} [Decidable c] {A B : Prop} (h : ¬ c) (q : B) : if decide c = true then A else B := by
  rw [if_neg (by simp [h])]; exact q
theorem iteNY {c : Prop} [Decidable c] {A B : Prop} (h : c) (q : B) : if (!decide c) = true then A else B := by
  rw [if_neg (by simp [h])]; exact q
theorem iteNZ {c : Prop} [Decidable c] {A B : Prop} (h : ¬ c) (q : A) : if (!decide c) = true then A else B := by
  rw [if_pos (by simp [h])]; exact q
theorem iteT' {A B : Prop} (q : A) : if true = true then A else B := by rw [if_pos rfl]; exact q
theorem iteF' {A B : Prop} (q : B) : if false = true then A else B := by rw [if_neg Bool.false_ne_true]; exact q
theorem iteNT {A B : Prop} (q : B) : if (!true) = true then A else B := by rw [if_neg (by decide)]; exact q
theorem iteNF {A B : Prop} (q : A) : if (!false) = true then A else B := by rw [if_pos (by decide)]; exact q
theorem iteB {k : Bool} {A B : Prop} (h1 : k = true → A) (h2 : k = false → B) : if k = true then A else B := by
  cases k with
  | true => rw [if_pos rfl]; exact h1 rfl
  | false => rw [if_neg Bool.false_ne_true]; exact h2 rfl
end

/-! ### statements -/
section
variable {K : PySem.W.Frag} {σ : L2.St} {H : Hp} {D : Ends} {t u : TS} {te ta tb : TE} {c : TT} {i j : Nat} {tr : TA}
theorem seq (q : t { D with nx := u D } σ H) : tSeq t u D σ H := q
theorem nx {f : L2.St → Hp → Prop} {r : V → Hp → Prop} {b k : L2.St → Hp → Prop} (q : f σ H) : Ends.nx ⟨f, r, b, k⟩ σ H := q
theorem rt {f : L2.St → Hp → Prop} {r : V → Hp → Prop} {b k : L2.St → Hp → Prop} {v : V} (q : r v H) : Ends.rt ⟨f, r, b, k⟩ v H := q
theorem next (q : D.nx σ H) : tNext D σ H := q
theorem asg (q : te σ H fun x H1 => D.nx (σ.set i (some x)) H1) : tAsg te (gName i) D σ H := q
theorem cut (Mid : L2.St → Hp → Prop) (q1 : t { D with nx := Mid } σ H) (q2 : ∀ σ' H', Mid σ' H' → u D σ' H') : Evl.tCut t u D σ H := ⟨Mid, q1, q2⟩
theorem asgG {g : TG} (q : te σ H fun x H1 => g x σ H1 D.nx) : tAsg te g D σ H := q
theorem gtup {n : Nat} {gs : TGs} {p : Addr} {xs : List V} {f : L2.St → Hp → Prop} (h : H p = some (.tup xs)) (hl : xs.length = n) (q : gs xs σ H f) : gTup K n gs (.ref p) σ H f := ⟨p, xs, rfl, SqT.of h, hl, q⟩
theorem gcons {g : TG} {gs : TGs} {v : V} {vs : List V} {f : L2.St → Hp → Prop} (q : g v σ H fun σ' H' => gs vs σ' H' f) : gCons g gs (v :: vs) σ H f := ⟨v, vs, rfl, q⟩
theorem gnil {f : L2.St → Hp → Prop} (q : f σ H) : gNil [] σ H f := ⟨rfl, q⟩
theorem gname {v : V} {f : L2.St → Hp → Prop} (q : f (σ.set i (some v)) H) : gName i v σ H f := q
theorem ret (q : te σ H D.rt) : tRet te D σ H := q
theorem ifS (q : c σ H fun b H1 => if b = true then t D σ H1 else u D σ H1) : tIfS c t u D σ H := q
theorem drop (q : te σ H fun _ H1 => D.nx σ H1) : tDrop te D σ H := q
theorem dput (q : te σ H fun v H1 => ta σ H1 fun x H2 => tb σ H2 fun y H3 => rDPut v x y H3 (D.nx σ)) : sDPut ta tb te D σ H := q
theorem dputS {p : Addr} {kvs : List (Key × V)} {k : Str} {v : V} {f : Hp → Prop} (h : H p = some (.dK kvs)) (hl : kvs.length < 100000) (q : f (upd H p (.dK (putK kvs (Sum.inr k) v)))) : rDPut v (.ref p) (.str k) H f := ⟨p, _, rfl, DPut.k (k := Sum.inr k) h (Nat.lt_of_lt_of_le hl (by decide)), q⟩
theorem fldS {f : Str} (q : te σ H fun y H1 => ta σ H1 fun x H2 => rFldS K f y x H2 (D.nx σ)) : sFld K ta te f D σ H := q
theorem fldSV {f : Str} {p C dx : Addr} {fs : List (Str × V)} {y : V} {k : Hp → Prop} (h : H p = some (.ins C dx fs)) (c : Cls K C) (n : NoAttr K C f) (l : fs.length < 1000) (q : k (upd H p (.ins C dx (putF f y fs)))) : rFldS K f y (.ref p) H k := ⟨p, C, dx, fs, rfl, h, c, n, l, q⟩
theorem par (q : tr σ H fun vs H1 => ∃ v w, vs = [v, w] ∧ D.nx ((σ.set i (some v)).set j (some w)) H1) : tPar i j tr D σ H := q
theorem par3 {l : Nat} (q : tr σ H fun vs H1 => ∃ u v w, vs = [u, v, w] ∧ D.nx (((σ.set i (some u)).set j (some v)).set l (some w)) H1) : tPar3 i j l tr D σ H := q
theorem parV {v w : V} {f : V → V → Prop} (q : f v w) : ∃ a b, [v, w] = [a, b] ∧ f a b := ⟨v, w, rfl, q⟩
theorem parV3 {u v w : V} {f : V → V → V → Prop} (q : f u v w) : ∃ a b c, [u, v, w] = [a, b, c] ∧ f a b c := ⟨u, v, w, rfl, q⟩
def rMkE (C : Addr) (fs : List Str) (vs : List V) (H1 : Hp) (Q : XK) : Prop := vs.length = fs.length ∧ ∀ d, H1 d = none → Q (.ref C) (some d) (upd H1 d (.xd (PySem.ErrX.setL [] fs vs)))
theorem raiseE {C : Addr} {fs : List Str} {W : WX} (q : tr σ H fun vs H1 => rMkE C fs vs H1 (fun cls d H' => W cls d σ H')) : tRaiseE C fs W tr D σ H := q
theorem mkE {C : Addr} {fs : List Str} {vs : List V} {Q : XK} (h : vs.length = fs.length) (q : ∀ d H', H d = none → Same H H' → H' d = some (.xd (PySem.ErrX.setL [] fs vs)) → Q (.ref C) (some d) H') : rMkE C fs vs H Q := ⟨h, fun d hd => q d _ hd (same_new hd) upd_same⟩
/-- for i in range(n) -/
def rForR (D : Ends) (j : Nat) (tb : TS) (σ : L2.St) (vs : List V) (H : Hp) : Prop := ∃ n : Int, vs = [.int n] ∧ -(2 ^ 62) ≤ n ∧ n < 2 ^ 62 ∧ ∃ W : Nat → Nat → L2.St → Hp → Prop, (∃ m, W 0 m σ H) ∧ ∀ i m σ H, W i m σ H →
  ((Itr 0 n.toNat).stop i H ∧ D.nx σ H) ∨ ((Itr 0 n.toNat).go i H ∧ ∃ N : L2.St → Hp → Prop, (∀ σ' H', N σ' H' → ∃ m', m' < m ∧ W (i + 1) m' σ' H') ∧ ∀ x H', (Itr 0 n.toNat).yld i H x H' → gName j x σ H' fun σ2 H2 => tb { D with nx := N, ct := N, bk := D.nx } σ2 H2)
theorem forR (q : tr σ H fun vs H1 => rForR D j t σ vs H1) : tFor (iRng1 tr) (gName j) t D σ H := q
theorem forR1 {n : Int} (Pv : Nat → L2.St → Hp → Prop) (hn : 0 ≤ n ∧ n ≤ 1000000000) (h0 : Pv 0 σ H)
    (hs : ∀ (i : Nat) σ' H', (i : Int) < n → Pv i σ' H' → t { D with nx := Pv (i + 1), ct := Pv (i + 1), bk := D.nx } (σ'.set j (some (.int (i : Int)))) H') (hd : ∀ σ' H', Pv n.toNat σ' H' → D.nx σ' H') : rForR D j t σ [.int n] H :=
  ⟨n, rfl, by omega, by omega, for_range (lo := 0) (n := n.toNat) Pv h0 (fun i σ' H' hi p => by
    have e0 : (0 : Int) + (i : Int) = (i : Int) := Int.zero_add _
    show t { D with nx := Pv (i + 1), ct := Pv (i + 1), bk := D.nx } (σ'.set j (some (.int ((0 : Int) + (i : Int))))) H'
    rw [e0]
    exact hs i σ' H' (by omega) p) hd⟩
/-- while, by a word of the state and a measure m -/
theorem whl {c : TT} (W : Nat → L2.St → Hp → Prop) (m : Nat) (h0 : W m σ H) (hs : ∀ m σ H, W m σ H → c σ H fun b H1 => if b = true then t { D with nx := fun σ' H' => ∃ m', m' < m ∧ W m' σ' H', ct := fun σ' H' => ∃ m', m' < m ∧ W m' σ' H', bk := D.nx } σ H1 else D.nx σ H1)
    (mono : ∀ σ H Q Q', (∀ b H1, Q b H1 → Q' b H1) → c σ H Q → c σ H Q') : tWhile c t D σ H := by
  refine ⟨W, ⟨m, h0⟩, fun m σ H w => mono σ H _ _ (fun b H1 q => ?_) (hs m σ H w)⟩
  cases b with
  | true => exact ⟨_, fun σ' H' z => z, q⟩
  | false => exact q
end

/-! ### deep equality of data -/
theorem dpT {K : PySem.W.Frag} {H : Hp} {p : Addr} {xs : List V} {ds : List PyData} (h : H p = some (.tup xs)) (d : DpAll K H xs ds) : Dp K H (.ref p) (.tuple ds) := .tup (SqT.of h) d
theorem dpL {K : PySem.W.Frag} {H : Hp} {p : Addr} {xs : List V} {ds : List PyData} (h : H p = some (.lst xs)) (d : DpAll K H xs ds) : Dp K H (.ref p) (.list ds) := .lst (SqL.of h) d
theorem dpInts {K : PySem.W.Frag} {H : Hp} : ∀ ns : List Int, DpAll K H (ns.map V.int) (ns.map PyData.int)
  | [] => .nil
  | n :: r => .cons (.int n) (dpInts r)
theorem eqD {K : PySem.W.Frag} {H : Hp} {x y : V} {d e : PyData} {Q : VK} {k : Bool} (hx : Dp K H x d) (hy : Dp K H y e) (sd : SeqAt.shaped d = true) (se : SeqAt.shaped e = true) (hk : PyData.eqv d e = k) (q : Q (.bl k) H) : rEqD K x y H Q := ⟨d, e, hx, hy, sd, se, hk ▸ q⟩
theorem neD {K : PySem.W.Frag} {H : Hp} {x y : V} {d e : PyData} {Q : VK} {k : Bool} (hx : Dp K H x d) (hy : Dp K H y e) (sd : SeqAt.shaped d = true) (se : SeqAt.shaped e = true) (hk : PyData.eqv d e = k) (q : Q (.bl (!k)) H) : rNeD K x y H Q := ⟨d, e, hx, hy, sd, se, hk ▸ q⟩
end G
namespace Lw
open PySem L2
def top (i : Nat) : Stmt := PySem.Challenge.pw_loopsize_k20_places_in_least_form.main.body.getD i (.Pass ⟨0, 0, 0, 0⟩)
abbrev s_common_divisor : Stmt := top 4
abbrev s_Straight_init : Stmt := inClass (top 6) 0
abbrev s_Straight_call : Stmt := inClass (top 6) 1
abbrev s_Straight_eq : Stmt := inClass (top 6) 2
abbrev s_Straight_add : Stmt := inClass (top 6) 4
abbrev s_Straight_mul : Stmt := inClass (top 6) 8
abbrev s_Straight_rmul : Stmt := inClass (top 6) 9
abbrev s_Straight_floordiv : Stmt := inClass (top 6) 10
abbrev s_Straight_replaced : Stmt := inClass (top 6) 11
abbrev s_Place_init : Stmt := inClass (top 7) 0
abbrev s_Place_call : Stmt := inClass (top 7) 1
abbrev s_Place_eq : Stmt := inClass (top 7) 2
abbrev s_Place_replaced : Stmt := inClass (top 7) 3
abbrev s_straight_of : Stmt := top 8
abbrev s_pen : Stmt := top 10
abbrev s_draw : Stmt := top 11
abbrev s_big : Stmt := top 12
abbrev s_between : Stmt := top 13
abbrev s_far : Stmt := top 14
abbrev s_integer : Stmt := top 15
abbrev s_divisor : Stmt := top 16
abbrev s_place_due : Stmt := top 17
abbrev s_refused_divisor : Stmt := top 18
abbrev s_moved_right : Stmt := top 19
abbrev s_place_right : Stmt := top 20
abbrev s_law : Stmt := top 21
abbrev s_BadNumber_init : Stmt := inClass (top 2) 0
theorem sc_common_divisor : FnScope ["a", "b"] ["a", "b"] (defScope s_common_divisor) := ⟨rfl, rfl, rfl, by decide +kernel, rfl, by decide +kernel, by decide +kernel⟩
theorem sc_Straight_init : FnScope ["self", "i", "n", "one"] ["self", "i", "n", "one"] (defScope s_Straight_init) := ⟨rfl, rfl, rfl, by decide +kernel, rfl, by decide +kernel, by decide +kernel⟩
theorem sc_Straight_call : FnScope ["self", "i", "n"] ["self", "i", "n"] (defScope s_Straight_call) := ⟨rfl, rfl, rfl, by decide +kernel, rfl, by decide +kernel, by decide +kernel⟩
theorem sc_Straight_eq : FnScope ["self", "other"] ["self", "other"] (defScope s_Straight_eq) := ⟨rfl, rfl, rfl, by decide +kernel, rfl, by decide +kernel, by decide +kernel⟩
theorem sc_Straight_add : FnScope ["self", "other", "more"] ["self", "other"] (defScope s_Straight_add) := ⟨rfl, rfl, rfl, by decide +kernel, rfl, by decide +kernel, by decide +kernel⟩
theorem sc_Straight_mul : FnScope ["self", "factor"] ["self", "factor"] (defScope s_Straight_mul) := ⟨rfl, rfl, rfl, by decide +kernel, rfl, by decide +kernel, by decide +kernel⟩
theorem sc_Straight_rmul : FnScope ["self", "factor"] ["self", "factor"] (defScope s_Straight_rmul) := ⟨rfl, rfl, rfl, by decide +kernel, rfl, by decide +kernel, by decide +kernel⟩
theorem sc_Straight_floordiv : FnScope ["self", "divisor"] ["self", "divisor"] (defScope s_Straight_floordiv) := ⟨rfl, rfl, rfl, by decide +kernel, rfl, by decide +kernel, by decide +kernel⟩
theorem sc_Straight_replaced : FnScope ["self", "factor", "shift"] ["self", "factor", "shift"] (defScope s_Straight_replaced) := ⟨rfl, rfl, rfl, by decide +kernel, rfl, by decide +kernel, by decide +kernel⟩
theorem sc_Place_init : FnScope ["self", "straight", "divisor", "whole", "common"] ["self", "straight", "divisor"] (defScope s_Place_init) := ⟨rfl, rfl, rfl, by decide +kernel, rfl, by decide +kernel, by decide +kernel⟩
theorem sc_Place_call : FnScope ["self", "i", "n", "whole"] ["self", "i", "n"] (defScope s_Place_call) := ⟨rfl, rfl, rfl, by decide +kernel, rfl, by decide +kernel, by decide +kernel⟩
theorem sc_Place_eq : FnScope ["self", "other"] ["self", "other"] (defScope s_Place_eq) := ⟨rfl, rfl, rfl, by decide +kernel, rfl, by decide +kernel, by decide +kernel⟩
theorem sc_Place_replaced : FnScope ["self", "factor", "shift"] ["self", "factor", "shift"] (defScope s_Place_replaced) := ⟨rfl, rfl, rfl, by decide +kernel, rfl, by decide +kernel, by decide +kernel⟩
theorem sc_straight_of : FnScope ["value"] ["value"] (defScope s_straight_of) := ⟨rfl, rfl, rfl, by decide +kernel, rfl, by decide +kernel, by decide +kernel⟩
theorem sc_pen : FnScope ["_law_script"] ["_law_script"] (defScope s_pen) := ⟨rfl, rfl, rfl, by decide +kernel, rfl, by decide +kernel, by decide +kernel⟩
theorem sc_draw : FnScope ["_law_pen_here", "_law_many", "_law_digit", "_law_spot", "_law_cell", "_law_mixed"] ["_law_pen_here", "_law_many"] (defScope s_draw) := ⟨rfl, rfl, rfl, by decide +kernel, rfl, by decide +kernel, by decide +kernel⟩
theorem sc_big : FnScope ["_law_pen_here", "_law_many", "_law_found", "_law_k"] ["_law_pen_here", "_law_many"] (defScope s_big) := ⟨rfl, rfl, rfl, by decide +kernel, rfl, by decide +kernel, by decide +kernel⟩
theorem sc_between : FnScope ["_law_pen_here", "_law_least", "_law_most", "_law_way", "_law_found"] ["_law_pen_here", "_law_least", "_law_most"] (defScope s_between) := ⟨rfl, rfl, rfl, by decide +kernel, rfl, by decide +kernel, by decide +kernel⟩
theorem sc_far : FnScope ["_law_pen_here", "_law_way"] ["_law_pen_here"] (defScope s_far) := ⟨rfl, rfl, rfl, by decide +kernel, rfl, by decide +kernel, by decide +kernel⟩
theorem sc_integer : FnScope ["_law_value"] ["_law_value"] (defScope s_integer) := ⟨rfl, rfl, rfl, by decide +kernel, rfl, by decide +kernel, by decide +kernel⟩
theorem sc_divisor : FnScope ["_law_a", "_law_b"] ["_law_a", "_law_b"] (defScope s_divisor) := ⟨rfl, rfl, rfl, by decide +kernel, rfl, by decide +kernel, by decide +kernel⟩
theorem sc_place_due : FnScope ["_law_row", "_law_g"] ["_law_row"] (defScope s_place_due) := ⟨rfl, rfl, rfl, by decide +kernel, rfl, by decide +kernel, by decide +kernel⟩
theorem sc_refused_divisor : FnScope ["_law_number", "_law_way", "_law_told", "e"] ["_law_number", "_law_way"] (defScope s_refused_divisor) := ⟨rfl, rfl, rfl, by decide +kernel, rfl, by decide +kernel, by decide +kernel⟩
theorem sc_moved_right : FnScope ["_law_pen_here", "_law_row", "_law_place", "_law_many", "_law_shift", "_law_a", "_law_b", "_law_c", "_law_d", "_law_moved", "_law_i", "_law_n"] ["_law_pen_here", "_law_row", "_law_place"] (defScope s_moved_right) := ⟨rfl, rfl, rfl, by decide +kernel, rfl, by decide +kernel, by decide +kernel⟩
theorem sc_place_right : FnScope ["_law_pen_here", "_law_common", "_law_a", "_law_b", "_law_c", "_law_d", "_law_place", "_law_i", "_law_n", "_law_least", "_law_told", "_law_counter", "_law_size", "_law_other", "_law_near", "_law_whole"] ["_law_pen_here"] (defScope s_place_right) := ⟨rfl, rfl, rfl, by decide +kernel, rfl, by decide +kernel, by decide +kernel⟩
theorem sc_law : FnScope ["_law_script", "_law_pen_here", "_law_turn", "_law_bad"] ["_law_script"] (defScope s_law) := ⟨rfl, rfl, rfl, by decide +kernel, rfl, by decide +kernel, by decide +kernel⟩
structure Ad where
  a_common_divisor : Addr
  d_common_divisor : FuncData
  a_Straight_init : Addr
  d_Straight_init : FuncData
  a_Straight_call : Addr
  d_Straight_call : FuncData
  a_Straight_eq : Addr
  d_Straight_eq : FuncData
  a_Straight_add : Addr
  d_Straight_add : FuncData
  a_Straight_mul : Addr
  d_Straight_mul : FuncData
  a_Straight_rmul : Addr
  d_Straight_rmul : FuncData
  a_Straight_floordiv : Addr
  d_Straight_floordiv : FuncData
  a_Straight_replaced : Addr
  d_Straight_replaced : FuncData
  a_Place_init : Addr
  d_Place_init : FuncData
  a_Place_call : Addr
  d_Place_call : FuncData
  a_Place_eq : Addr
  d_Place_eq : FuncData
  a_Place_replaced : Addr
  d_Place_replaced : FuncData
  a_straight_of : Addr
  d_straight_of : FuncData
  a_pen : Addr
  d_pen : FuncData
  a_draw : Addr
  d_draw : FuncData
  a_big : Addr
  d_big : FuncData
  a_between : Addr
  d_between : FuncData
  a_far : Addr
  d_far : FuncData
  a_integer : Addr
  d_integer : FuncData
  a_divisor : Addr
  d_divisor : FuncData
  a_place_due : Addr
  d_place_due : FuncData
  a_refused_divisor : Addr
  d_refused_divisor : FuncData
  a_moved_right : Addr
  d_moved_right : FuncData
  a_place_right : Addr
  d_place_right : FuncData
  a_law : Addr
  d_law : FuncData
  C_LoopError : Addr
  C_BadNumber : Addr
  a_BadNumber_init : Addr
  C_Straight : Addr
  C_Place : Addr
structure Txt (P : Program) (K : PySem.W.Frag) (mg : Str → Option Value) (a : Ad) : Prop where
  F_common_divisor : Fun K "common_divisor" "common_divisor" s_common_divisor a.a_common_divisor a.d_common_divisor
  b_common_divisor : Binds K a.d_common_divisor ["a", "b"] []
  g_common_divisor : mg "common_divisor" = some (.ref a.a_common_divisor)
  F_Straight_init : Fun K "__init__" "Straight.__init__" s_Straight_init a.a_Straight_init a.d_Straight_init
  b_Straight_init : Binds K a.d_Straight_init ["self", "i", "n", "one"] []
  at_Straight_init : PySem.W.findIn K (.ref a.C_Straight) "__init__" = some (some (.ref a.a_Straight_init))
  i_Straight_init : PySem.W.isFn K (.ref a.a_Straight_init) = true
  F_Straight_call : Fun K "__call__" "Straight.__call__" s_Straight_call a.a_Straight_call a.d_Straight_call
  b_Straight_call : Binds K a.d_Straight_call ["self", "i", "n"] []
  at_Straight_call : PySem.W.findIn K (.ref a.C_Straight) "__call__" = some (some (.ref a.a_Straight_call))
  i_Straight_call : PySem.W.isFn K (.ref a.a_Straight_call) = true
  c_Straight_call : StX.CallO K a.C_Straight a.a_Straight_call
  F_Straight_eq : Fun K "__eq__" "Straight.__eq__" s_Straight_eq a.a_Straight_eq a.d_Straight_eq
  b_Straight_eq : Binds K a.d_Straight_eq ["self", "other"] []
  at_Straight_eq : PySem.W.findIn K (.ref a.C_Straight) "__eq__" = some (some (.ref a.a_Straight_eq))
  i_Straight_eq : PySem.W.isFn K (.ref a.a_Straight_eq) = true
  F_Straight_add : Fun K "__add__" "Straight.__add__" s_Straight_add a.a_Straight_add a.d_Straight_add
  b_Straight_add : Binds K a.d_Straight_add ["self", "other"] []
  at_Straight_add : PySem.W.findIn K (.ref a.C_Straight) "__add__" = some (some (.ref a.a_Straight_add))
  i_Straight_add : PySem.W.isFn K (.ref a.a_Straight_add) = true
  F_Straight_mul : Fun K "__mul__" "Straight.__mul__" s_Straight_mul a.a_Straight_mul a.d_Straight_mul
  b_Straight_mul : Binds K a.d_Straight_mul ["self", "factor"] []
  at_Straight_mul : PySem.W.findIn K (.ref a.C_Straight) "__mul__" = some (some (.ref a.a_Straight_mul))
  i_Straight_mul : PySem.W.isFn K (.ref a.a_Straight_mul) = true
  F_Straight_rmul : Fun K "__rmul__" "Straight.__rmul__" s_Straight_rmul a.a_Straight_rmul a.d_Straight_rmul
  b_Straight_rmul : Binds K a.d_Straight_rmul ["self", "factor"] []
  at_Straight_rmul : PySem.W.findIn K (.ref a.C_Straight) "__rmul__" = some (some (.ref a.a_Straight_rmul))
  i_Straight_rmul : PySem.W.isFn K (.ref a.a_Straight_rmul) = true
  F_Straight_floordiv : Fun K "__floordiv__" "Straight.__floordiv__" s_Straight_floordiv a.a_Straight_floordiv a.d_Straight_floordiv
  b_Straight_floordiv : Binds K a.d_Straight_floordiv ["self", "divisor"] []
  at_Straight_floordiv : PySem.W.findIn K (.ref a.C_Straight) "__floordiv__" = some (some (.ref a.a_Straight_floordiv))
  i_Straight_floordiv : PySem.W.isFn K (.ref a.a_Straight_floordiv) = true
  F_Straight_replaced : Fun K "replaced" "Straight.replaced" s_Straight_replaced a.a_Straight_replaced a.d_Straight_replaced
  b_Straight_replaced : Binds K a.d_Straight_replaced ["self", "factor", "shift"] []
  at_Straight_replaced : PySem.W.findIn K (.ref a.C_Straight) "replaced" = some (some (.ref a.a_Straight_replaced))
  i_Straight_replaced : PySem.W.isFn K (.ref a.a_Straight_replaced) = true
  m_Straight_replaced : Meth K a.C_Straight "replaced" a.a_Straight_replaced
  F_Place_init : Fun K "__init__" "Place.__init__" s_Place_init a.a_Place_init a.d_Place_init
  b_Place_init : Binds K a.d_Place_init ["self", "straight", "divisor"] []
  at_Place_init : PySem.W.findIn K (.ref a.C_Place) "__init__" = some (some (.ref a.a_Place_init))
  i_Place_init : PySem.W.isFn K (.ref a.a_Place_init) = true
  F_Place_call : Fun K "__call__" "Place.__call__" s_Place_call a.a_Place_call a.d_Place_call
  b_Place_call : Binds K a.d_Place_call ["self", "i", "n"] []
  at_Place_call : PySem.W.findIn K (.ref a.C_Place) "__call__" = some (some (.ref a.a_Place_call))
  i_Place_call : PySem.W.isFn K (.ref a.a_Place_call) = true
  c_Place_call : StX.CallO K a.C_Place a.a_Place_call
  F_Place_eq : Fun K "__eq__" "Place.__eq__" s_Place_eq a.a_Place_eq a.d_Place_eq
  b_Place_eq : Binds K a.d_Place_eq ["self", "other"] []
  at_Place_eq : PySem.W.findIn K (.ref a.C_Place) "__eq__" = some (some (.ref a.a_Place_eq))
  i_Place_eq : PySem.W.isFn K (.ref a.a_Place_eq) = true
  F_Place_replaced : Fun K "replaced" "Place.replaced" s_Place_replaced a.a_Place_replaced a.d_Place_replaced
  b_Place_replaced : Binds K a.d_Place_replaced ["self", "factor", "shift"] []
  at_Place_replaced : PySem.W.findIn K (.ref a.C_Place) "replaced" = some (some (.ref a.a_Place_replaced))
  i_Place_replaced : PySem.W.isFn K (.ref a.a_Place_replaced) = true
  m_Place_replaced : Meth K a.C_Place "replaced" a.a_Place_replaced
  F_straight_of : Fun K "straight_of" "straight_of" s_straight_of a.a_straight_of a.d_straight_of
  b_straight_of : Binds K a.d_straight_of ["value"] []
  g_straight_of : mg "straight_of" = some (.ref a.a_straight_of)
  F_pen : Fun K "_law_pen" "_law_pen" s_pen a.a_pen a.d_pen
  b_pen : Binds K a.d_pen ["_law_script"] []
  g_pen : mg "_law_pen" = some (.ref a.a_pen)
  F_draw : Fun K "_law_draw" "_law_draw" s_draw a.a_draw a.d_draw
  b_draw : Binds K a.d_draw ["_law_pen_here", "_law_many"] []
  g_draw : mg "_law_draw" = some (.ref a.a_draw)
  F_big : Fun K "_law_big" "_law_big" s_big a.a_big a.d_big
  b_big : Binds K a.d_big ["_law_pen_here", "_law_many"] []
  g_big : mg "_law_big" = some (.ref a.a_big)
  F_between : Fun K "_law_between" "_law_between" s_between a.a_between a.d_between
  b_between : Binds K a.d_between ["_law_pen_here", "_law_least", "_law_most"] []
  g_between : mg "_law_between" = some (.ref a.a_between)
  F_far : Fun K "_law_far" "_law_far" s_far a.a_far a.d_far
  b_far : Binds K a.d_far ["_law_pen_here"] []
  g_far : mg "_law_far" = some (.ref a.a_far)
  F_integer : Fun K "_law_integer" "_law_integer" s_integer a.a_integer a.d_integer
  b_integer : Binds K a.d_integer ["_law_value"] []
  g_integer : mg "_law_integer" = some (.ref a.a_integer)
  F_divisor : Fun K "_law_divisor" "_law_divisor" s_divisor a.a_divisor a.d_divisor
  b_divisor : Binds K a.d_divisor ["_law_a", "_law_b"] []
  g_divisor : mg "_law_divisor" = some (.ref a.a_divisor)
  F_place_due : Fun K "_law_place_due" "_law_place_due" s_place_due a.a_place_due a.d_place_due
  b_place_due : Binds K a.d_place_due ["_law_row"] []
  g_place_due : mg "_law_place_due" = some (.ref a.a_place_due)
  F_refused_divisor : Fun K "_law_refused_divisor" "_law_refused_divisor" s_refused_divisor a.a_refused_divisor a.d_refused_divisor
  b_refused_divisor : Binds K a.d_refused_divisor ["_law_number", "_law_way"] []
  g_refused_divisor : mg "_law_refused_divisor" = some (.ref a.a_refused_divisor)
  F_moved_right : Fun K "_law_moved_right" "_law_moved_right" s_moved_right a.a_moved_right a.d_moved_right
  b_moved_right : Binds K a.d_moved_right ["_law_pen_here", "_law_row", "_law_place"] []
  g_moved_right : mg "_law_moved_right" = some (.ref a.a_moved_right)
  F_place_right : Fun K "_law_place_right" "_law_place_right" s_place_right a.a_place_right a.d_place_right
  b_place_right : Binds K a.d_place_right ["_law_pen_here"] []
  g_place_right : mg "_law_place_right" = some (.ref a.a_place_right)
  F_law : Fun K "law" "law" s_law a.a_law a.d_law
  b_law : Binds K a.d_law ["_law_script"] []
  g_law : mg "law" = some (.ref a.a_law)
  g_LoopError : mg "LoopError" = some (.ref a.C_LoopError)
  g_BadNumber : mg "BadNumber" = some (.ref a.C_BadNumber)
  e_BadNumber : PySem.ErrX.ErrTxt P K mg "BadNumber" a.C_BadNumber a.a_BadNumber_init ["what", "number"]
  x_BadNumber : XfC K a.C_BadNumber
  te_BadNumber : PySem.W.exmOne K (.ref a.C_BadNumber) (.ref a.C_BadNumber) = some true
  g_Straight : mg "Straight" = some (.ref a.C_Straight)
  cl_Straight : Cls K a.C_Straight
  mk_Straight : Mk K a.C_Straight a.a_Straight_init
  na_Straight_i : NoAttr K a.C_Straight "i"
  na_Straight_n : NoAttr K a.C_Straight "n"
  na_Straight_one : NoAttr K a.C_Straight "one"
  ca_Straight : PySem.W.findIn K (.ref a.C_Straight) "__class__" = some (some (.builtin "object.__class__"))
  mo_Straight : PySem.W.mroIn K a.C_Straight (.type "object") = some true
  g_Place : mg "Place" = some (.ref a.C_Place)
  cl_Place : Cls K a.C_Place
  mk_Place : Mk K a.C_Place a.a_Place_init
  na_Place_straight : NoAttr K a.C_Place "straight"
  na_Place_divisor : NoAttr K a.C_Place "divisor"
  ca_Place : PySem.W.findIn K (.ref a.C_Place) "__class__" = some (some (.builtin "object.__class__"))
  mo_Place : PySem.W.mroIn K a.C_Place (.type "object") = some true
  cg : PySem.W.specialIn K (.builtin "object.__class__") "__get__" = some (some (.builtin "getset_descriptor.__get__"))
  ct : PySem.W.takesIn K (.builtin "object.__class__") = some true
  o_Straight_floordiv : OwnBin K a.C_Straight a.a_Straight_floordiv .FloorDiv
  o_Straight_add : OwnBin K a.C_Straight a.a_Straight_add .Add
  o_Straight_rmul : OwnBinR K a.C_Straight a.a_Straight_rmul a.a_Straight_mul .Mult
  o_Straight_mul : OwnBin K a.C_Straight a.a_Straight_mul .Mult
  ki_S_S : PySem.W.kitOne K (.ref a.C_Straight) (.ref a.C_Straight) = some true
  ki_P_S : PySem.W.kitOne K (.ref a.C_Place) (.ref a.C_Straight) = some false
  ki_int_S : PySem.W.kitOne K (.type "int") (.ref a.C_Straight) = some false
  ki_P_P : PySem.W.kitOne K (.ref a.C_Place) (.ref a.C_Place) = some true
  ki_S_P : PySem.W.kitOne K (.ref a.C_Straight) (.ref a.C_Place) = some false
  ki_int_P : PySem.W.kitOne K (.type "int") (.ref a.C_Place) = some false
  ki_str_P : PySem.W.kitOne K (.type "str") (.ref a.C_Place) = some false
  nf_S_P : PySem.W.notFirst K a.C_Straight (.ref a.C_Place) = true
  nf_P_S : PySem.W.notFirst K a.C_Place (.ref a.C_Straight) = true
  nf_P_int : PySem.W.notFirst K a.C_Place (.type "int") = true
  nf_P_str : PySem.W.notFirst K a.C_Place (.type "str") = true
  n_abs : mg "abs" = none
  n_bool : mg "bool" = none
  n_int : mg "int" = none
  n_isinstance : mg "isinstance" = none
  n_len : mg "len" = none
  n_list : mg "list" = none
  n_max : mg "max" = none
  n_min : mg "min" = none
  n_range : mg "range" = none
  n_str : mg "str" = none
end Lw
local macro_rules | `(tactic| walk_at "hp") => `(tactic| first
  | assumption
  | exact L2.upd_same
  | (refine G.sget (by assumption) ?_; walk_at "hp")
  | (refine G.kget (by assumption) ?_ ?_; (· walk_at "hp"); (· intro _ h; cases h)))
local macro_rules | `(tactic| walk_at "s") => `(tactic| first
  | (with_reducible refine G.seq ?_)
  | (with_reducible refine G.nx ?_)
  | (with_reducible refine G.rt ?_)
  | (with_reducible refine G.next ?_)
  | (with_reducible refine G.asg ?_)
  | (with_reducible refine G.asgG ?_)
  | ((with_reducible refine' G.gtup ?h ?l ?q); (case h => walk_at "hp"); (case l => rfl))
  | (with_reducible refine G.gcons ?_)
  | (with_reducible refine G.gnil ?_)
  | (with_reducible refine G.gname ?_)
  | (with_reducible refine G.inst ?_)
  | (with_reducible refine G.refV ?_)
  | (with_reducible refine G.xf ?_)
  | ((with_reducible refine' G.xfV ?h ?l ?q); (case h => walk_at "hp"); (case l => walk_at "xk"))
  | (with_reducible refine G.ret ?_)
  | (with_reducible refine G.ifS ?_)
  | (with_reducible refine G.drop ?_)
  | ((with_reducible refine' G.var ?h ?q); (case h => rfl))
  | (with_reducible refine G.cst ?_)
  | (with_reducible refine G.op ?_)
  | (with_reducible refine G.un ?_)
  | (with_reducible refine G.I0 ?_)
  | (with_reducible refine G.U1 ?_)
  | ((with_reducible refine G.fdiv ?_ ?_ ?_); (· omega); (· omega))
  | ((with_reducible refine G.md ?_ ?_); (· omega))
  | ((with_reducible refine G.mulL ?_ ?_ ?_); (· omega); (· omega))
  | ((with_reducible refine G.mulR ?_ ?_ ?_); (· omega); (· omega))
  | (with_reducible refine G.pow18 ?_)
  | (with_reducible refine G.pow6 ?_)
  | (with_reducible refine G.pow30 ?_)
  | (with_reducible refine G.pow29 ?_)
  | (with_reducible refine G.pow3 ?_)
  | (with_reducible refine G.eqI ?_)
  | (with_reducible refine G.neI ?_)
  | ((with_reducible refine G.eq ?_ ?_); (· rfl))
  | ((with_reducible refine G.ne ?_ ?_); (· rfl))
  | (with_reducible refine G.isN ?_)
  | (with_reducible refine G.notN ?_)
  | (with_reducible refine G.test ?_)
  | (with_reducible refine G.tBv ?_)
  | (with_reducible refine G.bl ?_)
  | (with_reducible refine G.and ?_)
  | (with_reducible refine G.or ?_)
  | (with_reducible refine G.not ?_)
  | (with_reducible refine G.andV ?_)
  | (with_reducible refine G.orV ?_)
  | (with_reducible refine G.notV ?_)
  | (with_reducible refine G.ifE ?_)
  | (with_reducible refine G.nil ?_)
  | (with_reducible refine G.cons ?_)
  | (with_reducible refine G.tup ?_)
  | (with_reducible refine G.lst ?_)
  | (with_reducible refine G.fld ?_)
  | (with_reducible refine G.call ?_)
  | (with_reducible refine G.cb ?_)
  | (with_reducible refine G.make ?_)
  | (with_reducible refine G.dget ?_)
  | (with_reducible refine G.dput ?_)
  | (with_reducible refine G.fldS ?_)
  | (with_reducible refine G.abs ?_)
  | (with_reducible refine G.max2 ?_)
  | (with_reducible refine G.min2 ?_)
  | (with_reducible refine G.int1 ?_)
  | (with_reducible refine G.own ?_)
  | (with_reducible refine G.ownR ?_)
  | (with_reducible refine G.meth ?_)
  | (with_reducible refine G.par ?_)
  | (with_reducible refine G.par3 ?_)
  | (with_reducible refine G.parV ?_)
  | (with_reducible refine G.parV3 ?_)
  | (with_reducible refine G.forR ?_)
  | (with_reducible refine G.raiseE ?_)
  | (with_reducible refine G.iteT' ?_)
  | (with_reducible refine G.iteNT ?_)
  | (with_reducible refine G.iteNF ?_)
  | (with_reducible refine G.iteF' ?_)
  | ((with_reducible refine' G.dgetS ?h ?l ?q); (case h => walk_at "hp"); (case l => walk_at "dk"))
  | ((with_reducible refine' G.lenL ?h ?q); (case h => walk_at "hp"))
  | ((with_reducible refine' G.lenT ?h ?q); (case h => walk_at "hp"))
  | ((with_reducible refine' G.fldV ?h ?c ?n ?l ?q); (case h => walk_at "hp"); (case c => walk_at "cls"); (case n => walk_at "na"); (case l => walk_at "lk"))
  | ((with_reducible refine' G.fldSV ?h ?c ?n ?l ?q); (case h => walk_at "hp"); (case c => walk_at "cls"); (case n => walk_at "na"); (case l => walk_at "ln")))
local macro_rules | `(tactic| walk_at "g") => `(tactic| repeat (walk_at "s"))
namespace Lw
open PySem L2
def fStraight (v0 : V) (v1 : V) (v2 : V) : List (Str × V) := [("i", v0), ("n", v1), ("one", v2)]
theorem fStraight_i (v0 : V) (v1 : V) (v2 : V) : (fStraight v0 v1 v2).lookup ("i" : Str) = some v0 := by kernel_rfl
theorem fStraight_n (v0 : V) (v1 : V) (v2 : V) : (fStraight v0 v1 v2).lookup ("n" : Str) = some v1 := by kernel_rfl
theorem fStraight_one (v0 : V) (v1 : V) (v2 : V) : (fStraight v0 v1 v2).lookup ("one" : Str) = some v2 := by kernel_rfl
theorem fStraight_no_replaced (v0 : V) (v1 : V) (v2 : V) : (fStraight v0 v1 v2).lookup ("replaced" : Str) = none := by kernel_rfl
theorem fStraight_put0 (v0 : V) : putF "i" v0 ([] : List (Str × V)) = ([("i", v0)] : List (Str × V)) := by kernel_rfl
theorem fStraight_put1 (v0 : V) (v1 : V) : putF "n" v1 ([("i", v0)] : List (Str × V)) = ([("i", v0), ("n", v1)] : List (Str × V)) := by kernel_rfl
theorem fStraight_put2 (v0 : V) (v1 : V) (v2 : V) : putF "one" v2 ([("i", v0), ("n", v1)] : List (Str × V)) = ([("i", v0), ("n", v1), ("one", v2)] : List (Str × V)) := by kernel_rfl
def fPlace (v0 : V) (v1 : V) : List (Str × V) := [("straight", v0), ("divisor", v1)]
theorem fPlace_straight (v0 : V) (v1 : V) : (fPlace v0 v1).lookup ("straight" : Str) = some v0 := by kernel_rfl
theorem fPlace_divisor (v0 : V) (v1 : V) : (fPlace v0 v1).lookup ("divisor" : Str) = some v1 := by kernel_rfl
theorem fPlace_no_replaced (v0 : V) (v1 : V) : (fPlace v0 v1).lookup ("replaced" : Str) = none := by kernel_rfl
theorem fPlace_put0 (v0 : V) : putF "straight" v0 ([] : List (Str × V)) = ([("straight", v0)] : List (Str × V)) := by kernel_rfl
theorem fPlace_put1 (v0 : V) (v1 : V) : putF "divisor" v1 ([("straight", v0)] : List (Str × V)) = ([("straight", v0), ("divisor", v1)] : List (Str × V)) := by kernel_rfl
local macro_rules | `(tactic| walk_at "cls") => `(tactic| first | exact Lw.Txt.cl_Straight (by assumption) | exact Lw.Txt.cl_Place (by assumption))
local macro_rules | `(tactic| walk_at "na") => `(tactic| first | exact Lw.Txt.na_Straight_i (by assumption) | exact Lw.Txt.na_Straight_n (by assumption) | exact Lw.Txt.na_Straight_one (by assumption) | exact Lw.Txt.na_Place_straight (by assumption) | exact Lw.Txt.na_Place_divisor (by assumption))
local macro_rules | `(tactic| walk_at "lk") => `(tactic| first | exact Lw.fStraight_i _ _ _ | exact Lw.fStraight_n _ _ _ | exact Lw.fStraight_one _ _ _ | exact Lw.fPlace_straight _ _ | exact Lw.fPlace_divisor _ _)
local macro_rules | `(tactic| walk_at "ln") => `(tactic| first | (show 0 < 1000; decide) | (show 1 < 1000; decide) | (show 2 < 1000; decide) | (show 3 < 1000; decide) | (show 4 < 1000; decide))
/-! ### promises -/
def IsS (a : Ad) (H : Hp) (p : Addr) (i n o : Int) : Prop := ∃ dx, H p = some (.ins a.C_Straight dx (fStraight (.int i) (.int n) (.int o)))
def IsP (a : Ad) (H : Hp) (p : Addr) (i n o d : Int) : Prop := ∃ dx s dy, H p = some (.ins a.C_Place dx (fPlace (.ref s) (.int d))) ∧ H s = some (.ins a.C_Straight dy (fStraight (.int i) (.int n) (.int o)))
/-- a sum, or an integer in its place -/
def SVal (a : Ad) (H : Hp) (y : V) (i n o : Int) : Prop := (∃ q, y = .ref q ∧ IsS a H q i n o) ∨ (y = .int o ∧ i = 0 ∧ n = 0)
def Sm (x : Int) : Prop := -18446744073709551616 < x ∧ x < 18446744073709551616
def spGcd : Sp := fun vs H Q _ => ∃ (a b : Int), vs = [.int a, .int b] ∧ 0 ≤ a ∧ 0 ≤ b ∧ Q (.int (Int.gcd a b)) H
def spSInit (a : Ad) : Sp := fun vs H Q _ => ∃ (p dx : Addr) (i n o : Int), vs = [.ref p, .int i, .int n, .int o] ∧ H p = some (.ins a.C_Straight dx []) ∧ Q .non (upd H p (.ins a.C_Straight dx (fStraight (.int i) (.int n) (.int o))))
def spSCall (a : Ad) : Sp := fun vs H Q _ => ∃ (p : Addr) (i n o x y : Int), vs = [.ref p, .int x, .int y] ∧ IsS a H p i n o ∧ Sm i ∧ Sm n ∧ Q (.int (i * x + n * y + o)) H
/-- y is of another kind than the class at C -/
def Oth (K : PySem.W.Frag) (H : Hp) (C : Addr) (y : V) : Prop := ∃ t, TyX K H y t ∧ PySem.W.kitOne K t (.ref C) = some false
def spSEq (K : PySem.W.Frag) (a : Ad) : Sp := fun vs H Q _ => ∃ (p : Addr) (i n o : Int) (y : V), vs = [.ref p, y] ∧ IsS a H p i n o ∧
  ((∃ q i' n' o', y = .ref q ∧ IsS a H q i' n' o' ∧ Q (.bl (decide (i = i' ∧ n = n' ∧ o = o'))) H) ∨ (Oth K H a.C_Straight y ∧ Q (.bl false) H))
def spSof (a : Ad) : Sp := fun vs H Q _ => ∃ (y : V) (i n o : Int), vs = [y] ∧ SVal a H y i n o ∧ ∀ q H', Same H H' → IsS a H' q i n o → Q (.ref q) H'
def spSAdd (a : Ad) : Sp := fun vs H Q _ => ∃ (p : Addr) (i n o : Int) (y : V) (i' n' o' : Int), vs = [.ref p, y] ∧ IsS a H p i n o ∧ SVal a H y i' n' o' ∧ ∀ q H', Same H H' → IsS a H' q (i + i') (n + n') (o + o') → Q (.ref q) H'
def spSMul (a : Ad) : Sp := fun vs H Q _ => ∃ (p : Addr) (i n o f : Int), vs = [.ref p, .int f] ∧ IsS a H p i n o ∧ Sm f ∧ ∀ q H', Same H H' → IsS a H' q (f * i) (f * n) (f * o) → Q (.ref q) H'
def spSRep (a : Ad) : Sp := fun vs H Q _ => ∃ (p : Addr) (i n o f s : Int), vs = [.ref p, .int f, .int s] ∧ IsS a H p i n o ∧ Sm f ∧ Sm s ∧ ∀ q H', Same H H' → IsS a H' q (i * f) n (o + i * s) → Q (.ref q) H'
/-- what is taken out of a place -/
def gP (i n d : Int) : Int := (Int.gcd d (Int.gcd i n : Nat) : Nat)
/-- the error's dict -/
def xBN (wh : Str) (d : Int) : List (Str × V) := PySem.ErrX.setL [] ["what", "number"] [.str wh, .int d]
def spPInit (a : Ad) : Sp := fun vs H Q E => ∃ (p dx : Addr) (y : V) (i n o d : Int), vs = [.ref p, y, .int d] ∧ H p = some (.ins a.C_Place dx []) ∧ SVal a H y i n o ∧ d < 1073741824 ∧
  (d < 1 → ∀ e H', Same H H' → H' e = some (.xd (xBN "divisor" d)) → E (.ref a.C_BadNumber) (some e) H') ∧
  (1 ≤ d → ∀ s dy H', Same H H' → H' s = some (.ins a.C_Straight dy (fStraight (.int (i / gP i n d)) (.int (n / gP i n d)) (.int (o / gP i n d)))) → Q .non (upd H' p (.ins a.C_Place dx (fPlace (.ref s) (.int (d / gP i n d))))))
def spPMake (a : Ad) : Sp := fun vs H Q E => ∃ (p : Addr) (i n o d : Int), vs = [.ref p, .int d] ∧ IsS a H p i n o ∧ d < 1073741824 ∧
  (d < 1 → ∀ e H', Same H H' → H' e = some (.xd (xBN "divisor" d)) → E (.ref a.C_BadNumber) (some e) H') ∧
  (1 ≤ d → ∀ q H', Same H H' → IsP a H' q (i / gP i n d) (n / gP i n d) (o / gP i n d) (d / gP i n d) → Q (.ref q) H')
def spPCall (a : Ad) : Sp := fun vs H Q _ => ∃ (p : Addr) (i n o d x y : Int), vs = [.ref p, .int x, .int y] ∧ IsP a H p i n o d ∧ Sm i ∧ Sm n ∧ 1 ≤ d ∧ d < 1073741824 ∧ Q (.int ((i * x + n * y + o) / d)) H
def spPEq (K : PySem.W.Frag) (a : Ad) : Sp := fun vs H Q _ => ∃ (p : Addr) (i n o d : Int) (y : V), vs = [.ref p, y] ∧ IsP a H p i n o d ∧
  ((∃ q i' n' o' d', y = .ref q ∧ IsP a H q i' n' o' d' ∧ Q (.bl (decide (i = i' ∧ n = n' ∧ o = o' ∧ d = d'))) H) ∨ (Oth K H a.C_Place y ∧ Q (.bl false) H))
def spPRep (a : Ad) : Sp := fun vs H Q _ => ∃ (p : Addr) (i n o d f s : Int), vs = [.ref p, .int f, .int s] ∧ IsP a H p i n o d ∧ Sm f ∧ Sm s ∧ 1 ≤ d ∧ d < 1073741824 ∧
  ∀ q H', Same H H' → IsP a H' q (i * f / gP (i * f) n d) (n / gP (i * f) n d) ((o + i * s) / gP (i * f) n d) (d / gP (i * f) n d) → Q (.ref q) H'
section
variable {P : Program} {w : World} {K : PySem.W.Frag} {mg : Str → Option Value} {base : Heap} {a : Ad}
theorem ty_S (T : Txt P K mg a) {H : Hp} {p dx : Addr} {fs : List (Str × V)} (h : H p = some (.ins a.C_Straight dx fs)) : TyX K H (.ref p) (.ref a.C_Straight) := .base (.ins h T.cl_Straight T.ca_Straight T.cg T.ct T.mo_Straight)
theorem ty_P (T : Txt P K mg a) {H : Hp} {p dx : Addr} {fs : List (Str × V)} (h : H p = some (.ins a.C_Place dx fs)) : TyX K H (.ref p) (.ref a.C_Place) := .base (.ins h T.cl_Place T.ca_Place T.cg T.ct T.mo_Place)
theorem same_made {H : Hp} {x dx C : Addr} {o : HO} (hx : H x = none) (hd : H dx = none) : Same H (upd (upd (upd H dx (.own x)) x (.ins C dx [])) x o) := fun b u e => by
  rw [G.upd_upd, upd_ne (ne_of_none e hx), upd_ne (ne_of_none e hd)]
  exact e
theorem same_made0 {H : Hp} {x dx C : Addr} (hx : H x = none) (hd : H dx = none) : Same H (upd (upd H dx (.own x)) x (.ins C dx [])) := fun b u e => by
  rw [upd_ne (ne_of_none e hx), upd_ne (ne_of_none e hd)]
  exact e
theorem mkS {E : XK} {H : Hp} {Q : VK} {i n o : Int} (q : ∀ p dx H', H p = none → Same H H' → H' p = some (.ins a.C_Straight dx (fStraight (.int i) (.int n) (.int o))) → Q (.ref p) H') : G.rMake a.C_Straight (spSInit a) E [.int i, .int n, .int o] H Q :=
  fun x dx hx hd _ => ⟨x, dx, i, n, o, rfl, upd_same, rfl, q x dx _ hx (same_made hx hd) upd_same⟩
theorem gP_pos {i n d : Int} (h : 1 ≤ d) : 0 < gP i n d := by
  unfold gP
  have : 0 < Int.gcd d (Int.gcd i n : Nat) := Int.gcd_pos_of_ne_zero_left _ (by omega)
  omega
theorem gP_dvd {i n d : Int} : gP i n d ∣ d := Int.gcd_dvd_left ..
theorem gP_le {i n d : Int} (h : 1 ≤ d) : gP i n d ≤ d := Int.le_of_dvd (by omega) gP_dvd
theorem ok_common_divisor (T : Txt P K mg a) : FnOk P w K mg base CX0 1 a.a_common_divisor a.d_common_divisor ["a", "b"] spGcd := by
  refine T.F_common_divisor.ok sc_common_divisor (fun vs H Q E h => ?_) (fun cdv A outer s H vs Q E hr h => ?_)
  · obtain ⟨x, y, rfl, _⟩ := h
    rfl
  · obtain ⟨x, y, rfl, hx, hy, k⟩ := h
    obtain ⟨x, rfl⟩ := Int.eq_ofNat_of_zero_le hx
    obtain ⟨y, rfl⟩ := Int.eq_ofNat_of_zero_le hy
    rw [Int.gcd_natCast_natCast] at k
    refine ⟨_, (pss_cons (ps_while PassesOwn.never (pt_cmpR op_gt (pv 1) pe_int (nomark _)) (pss_one (ps_par (i := 0) (j := 1) (by rfl) sc_common_divisor.nd rfl rfl (by decide) rfl rfl (pa_cons (pv 1) (pa_cons (pe_op op_mod (pv 0) (pv 1)) pa_nil)) (by rfl))))
      (pss_one (ps_ret (pv 0)))), ?_⟩
    refine G.seq (G.whl (fun m σ H' => ∃ u v : Nat, σ = [some (.int u), some (.int v)] ∧ H' = H ∧ Nat.gcd u v = Nat.gcd x y ∧ m = v) y ⟨x, y, rfl, rfl, rfl, rfl⟩ ?_ ?_)
    · rintro m σ H' ⟨u, v, rfl, rfl, e, rfl⟩
      walk_at "g"
      refine G.ite (fun hv => ?_) (fun hv => ?_)
      · walk_at "g"
        have hm : 0 < m := by omega
        refine ⟨u % m, Nat.mod_lt _ hm, m, u % m, ?_, rfl, ?_, rfl⟩
        · show [some (V.int (m : Int)), some (V.int ((u : Int) % (m : Int)))] = _
          rw [← Int.natCast_emod] 
        · rw [← e, Nat.gcd_comm u m, Nat.gcd_rec m u, Nat.gcd_comm]
      · walk_at "g"
        have hm : m = 0 := by omega
        subst hm
        rw [Nat.gcd_zero_right] at e
        rw [e]
        exact k
    · intro σ H Q Q' hm hq
      obtain ⟨v, h1, h2⟩ := hq
      obtain ⟨i, j, h3, h4, k', h5, h6⟩ := h2
      exact ⟨v, h1, i, j, h3, h4, k', h5, hm _ _ h6⟩
theorem ok_Straight_init (T : Txt P K mg a) : FnOk P w K mg base CX0 1 a.a_Straight_init a.d_Straight_init ["self", "i", "n", "one"] (spSInit a) := by
  refine T.F_Straight_init.ok sc_Straight_init (fun vs H Q E h => ?_) (fun cdv A outer s H vs Q E hr h => ?_)
  · obtain ⟨p, dx, i, n, o, rfl, _⟩ := h
    rfl
  · obtain ⟨p, dx, i, n, o, rfl, hp, k⟩ := h
    refine ⟨_, (pss_cons (ps_fld (pv 0) (pv 1) rfl)
      (pss_cons (ps_fld (pv 0) (pv 2) rfl)
      (pss_one (ps_fld (pv 0) (pv 3) rfl)))), ?_⟩
    walk_at "g"
    simp only [G.upd_upd, fStraight_put0, fStraight_put1, fStraight_put2]
    exact k
theorem ok_Straight_call (T : Txt P K mg a) : FnOk P w K mg base CX0 1 a.a_Straight_call a.d_Straight_call ["self", "i", "n"] (spSCall a) := by
  refine T.F_Straight_call.ok sc_Straight_call (fun vs H Q E h => ?_) (fun cdv A outer s H vs Q E hr h => ?_)
  · obtain ⟨p, i, n, o, x, y, rfl, _⟩ := h
    rfl
  · obtain ⟨p, i, n, o, x, y, rfl, ⟨dx, hp⟩, ⟨h1, h2⟩, ⟨h3, h4⟩, k⟩ := h
    refine ⟨_, (pss_one (ps_ret (pe_op op_add (pe_op op_add (pe_op op_mul (pe_fld (pv 0) rfl) (pv 1)) (pe_op op_mul (pe_fld (pv 0) rfl) (pv 2))) (pe_fld (pv 0) rfl)))), ?_⟩
    walk_at "g"
    exact k
theorem ok_Straight_eq (T : Txt P K mg a) : FnOk P w K mg base CX0 1 a.a_Straight_eq a.d_Straight_eq ["self", "other"] (spSEq K a) := by
  refine T.F_Straight_eq.ok sc_Straight_eq (fun vs H Q E h => ?_) (fun cdv A outer s H vs Q E hr h => ?_)
  · obtain ⟨p, i, n, o, y, rfl, _⟩ := h
    rfl
  · obtain ⟨p, i, n, o, y, rfl, ⟨dx, hp⟩, k⟩ := h
    refine ⟨_, (pss_one (ps_ret (pe_and (pe_callB call_isi (by rfl) T.n_isinstance (by decide +kernel) (pa_cons (pv 1) (pa_cons (pe_glob (v := .ref a.C_Straight) rfl T.g_Straight rfl) pa_nil))) (pe_and (pe_cmpR op_eq (pe_fld (pv 0) rfl) (pe_fld (pv 1) rfl) (nomark _)) (pe_and (pe_cmpR op_eq (pe_fld (pv 0) rfl) (pe_fld (pv 1) rfl) (nomark _)) (pe_one (pe_cmpR op_eq (pe_fld (pv 0) rfl) (pe_fld (pv 1) rfl) (nomark _)))))))), ?_⟩
    walk_at "g"
    rcases k with ⟨q, i', n', o', rfl, ⟨dy, hq⟩, k⟩ | ⟨⟨t, ty, ki⟩, k⟩
    · refine ⟨_, _, _, _, true, rfl, .own _, ty_S T hq, T.ki_S_S, ?_⟩
      walk_at "g"
      refine G.ite (fun e1 => ?_) (fun e1 => ?_)
      · walk_at "g"
        refine G.ite (fun e2 => ?_) (fun e2 => ?_)
        · walk_at "g"
          have e : decide (i = i' ∧ n = n' ∧ o = o') = decide (o = o') := by simp [e1, e2]
          rw [← e]; exact k
        · have e : decide (i = i' ∧ n = n' ∧ o = o') = false := by simp [e2]
          rw [← e]; exact k
      · have e : decide (i = i' ∧ n = n' ∧ o = o') = false := by simp [e1]
        rw [← e]; exact k
    · refine ⟨_, _, _, _, false, rfl, .own _, ty, ki, ?_⟩
      walk_at "g"
      exact k
theorem ok_straight_of (T : Txt P K mg a) : FnOk P w K mg base CX0 3 a.a_straight_of a.d_straight_of ["value"] (spSof a) := by
  refine T.F_straight_of.ok sc_straight_of (fun vs H Q E h => ?_) (fun cdv A outer s H vs Q E hr h => ?_)
  · obtain ⟨y, i, n, o, rfl, _⟩ := h
    rfl
  · obtain ⟨y, i, n, o, rfl, hy, k⟩ := h
    refine ⟨_, (pss_cons (ps_if (pt_val (pe_callB call_isi (by rfl) T.n_isinstance (by decide +kernel) (pa_cons (pv 0) (pa_cons (pe_glob (v := .ref a.C_Straight) rfl T.g_Straight rfl) pa_nil)))) (pss_one (ps_ret (pv 0))) pss_nil)
      (pss_one (ps_ret (pe_makeS T.mk_Straight (ok_Straight_init T) (hr.mono (by decide)) rfl T.g_Straight T.b_Straight_init pass0S (pa_cons pe_int (pa_cons pe_int (pa_cons (pv 0) pa_nil))))))), ?_⟩
    walk_at "g"
    rcases hy with ⟨q, rfl, dy, hq⟩ | ⟨rfl, rfl, rfl⟩
    · refine ⟨_, _, _, _, true, rfl, .own _, ty_S T hq, T.ki_S_S, ?_⟩
      walk_at "g"
      exact k q H (Same.refl H) ⟨dy, hq⟩
    · refine ⟨_, _, _, _, false, rfl, .own _, .base (.int o), T.ki_int_S, ?_⟩
      walk_at "g"
      exact mkS fun p dx H' _ s h => k p H' s ⟨dx, h⟩
theorem ok_Straight_add (T : Txt P K mg a) : FnOk P w K mg base CX0 4 a.a_Straight_add a.d_Straight_add ["self", "other"] (spSAdd a) := by
  refine T.F_Straight_add.ok sc_Straight_add (fun vs H Q E h => ?_) (fun cdv A outer s H vs Q E hr h => ?_)
  · obtain ⟨p, i, n, o, y, i', n', o', rfl, _⟩ := h
    rfl
  · obtain ⟨p, i, n, o, y, i', n', o', rfl, ⟨dx, hp⟩, hy, k⟩ := h
    refine ⟨_, (pss_cons (ps_set (i := 2) sc_Straight_add.nd rfl (Or.inl rfl) (pe_callS (ok_straight_of T) (hr.mono (by decide)) rfl T.g_straight_of T.F_straight_of.kp T.b_straight_of pass0S (pa_cons (pv 1) pa_nil)))
      (pss_one (ps_ret (pe_makeS T.mk_Straight (ok_Straight_init T) (hr.mono (by decide)) rfl T.g_Straight T.b_Straight_init pass0S (pa_cons (pe_op op_add (pe_fld (pv 0) rfl) (pe_fld (pv 2) rfl)) (pa_cons (pe_op op_add (pe_fld (pv 0) rfl) (pe_fld (pv 2) rfl)) (pa_cons (pe_op op_add (pe_fld (pv 0) rfl) (pe_fld (pv 2) rfl)) pa_nil))))))), ?_⟩
    walk_at "g"
    refine ⟨y, i', n', o', rfl, hy, fun q H1 s1 ⟨dy, hq⟩ => ?_⟩
    walk_at "g"
    exact mkS fun z dz H2 _ s2 hz => k z H2 (s1.trans s2) ⟨dz, hz⟩
theorem ok_Straight_mul (T : Txt P K mg a) : FnOk P w K mg base CX0 3 a.a_Straight_mul a.d_Straight_mul ["self", "factor"] (spSMul a) := by
  refine T.F_Straight_mul.ok sc_Straight_mul (fun vs H Q E h => ?_) (fun cdv A outer s H vs Q E hr h => ?_)
  · obtain ⟨p, i, n, o, f, rfl, _⟩ := h
    rfl
  · obtain ⟨p, i, n, o, f, rfl, ⟨dx, hp⟩, ⟨h1, h2⟩, k⟩ := h
    refine ⟨_, (pss_one (ps_ret (pe_makeS T.mk_Straight (ok_Straight_init T) (hr.mono (by decide)) rfl T.g_Straight T.b_Straight_init pass0S (pa_cons (pe_op op_mul (pe_fld (pv 0) rfl) (pv 1)) (pa_cons (pe_op op_mul (pe_fld (pv 0) rfl) (pv 1)) (pa_cons (pe_op op_mul (pe_fld (pv 0) rfl) (pv 1)) pa_nil)))))), ?_⟩
    walk_at "g"
    refine mkS fun z dz H2 _ s2 hz => k z H2 s2 ⟨dz, ?_⟩
    rw [hz, Int.mul_comm f i, Int.mul_comm f n, Int.mul_comm f o]
theorem ok_Straight_rmul (T : Txt P K mg a) : FnOk P w K mg base CX0 3 a.a_Straight_rmul a.d_Straight_rmul ["self", "factor"] (spSMul a) := by
  refine T.F_Straight_rmul.ok sc_Straight_rmul (fun vs H Q E h => ?_) (fun cdv A outer s H vs Q E hr h => ?_)
  · obtain ⟨p, i, n, o, f, rfl, _⟩ := h
    rfl
  · obtain ⟨p, i, n, o, f, rfl, ⟨dx, hp⟩, ⟨h1, h2⟩, k⟩ := h
    refine ⟨_, (pss_one (ps_ret (pe_makeS T.mk_Straight (ok_Straight_init T) (hr.mono (by decide)) rfl T.g_Straight T.b_Straight_init pass0S (pa_cons (pe_op op_mul (pv 1) (pe_fld (pv 0) rfl)) (pa_cons (pe_op op_mul (pv 1) (pe_fld (pv 0) rfl)) (pa_cons (pe_op op_mul (pv 1) (pe_fld (pv 0) rfl)) pa_nil)))))), ?_⟩
    walk_at "g"
    exact mkS fun z dz H2 _ s2 hz => k z H2 s2 ⟨dz, hz⟩
theorem ok_Straight_replaced (T : Txt P K mg a) : FnOk P w K mg base CX0 3 a.a_Straight_replaced a.d_Straight_replaced ["self", "factor", "shift"] (spSRep a) := by
  refine T.F_Straight_replaced.ok sc_Straight_replaced (fun vs H Q E h => ?_) (fun cdv A outer s H vs Q E hr h => ?_)
  · obtain ⟨p, i, n, o, f, s, rfl, _⟩ := h
    rfl
  · obtain ⟨p, i, n, o, f, sh, rfl, ⟨dx, hp⟩, ⟨h1, h2⟩, ⟨h3, h4⟩, k⟩ := h
    refine ⟨_, (pss_one (ps_ret (pe_makeS T.mk_Straight (ok_Straight_init T) (hr.mono (by decide)) rfl T.g_Straight T.b_Straight_init pass0S (pa_cons (pe_op op_mul (pe_fld (pv 0) rfl) (pv 1)) (pa_cons (pe_fld (pv 0) rfl) (pa_cons (pe_op op_add (pe_fld (pv 0) rfl) (pe_op op_mul (pe_fld (pv 0) rfl) (pv 2))) pa_nil)))))), ?_⟩
    walk_at "g"
    exact mkS fun z dz H2 _ s2 hz => k z H2 s2 ⟨dz, hz⟩
theorem ok_Place_init (T : Txt P K mg a) : FnOk P w K mg base (L2.CX P w) 4 a.a_Place_init a.d_Place_init ["self", "straight", "divisor"] (spPInit a) := by
  refine T.F_Place_init.okX sc_Place_init (fun vs H Q E h => ?_) (fun cdv A outer s H vs Q E hr h => ?_)
  · obtain ⟨p, dx, y, i, n, o, d, rfl, _⟩ := h
    rfl
  · obtain ⟨p, dx, y, i, n, o, d, rfl, hp, hy, hd, kE, kQ⟩ := h
    refine ⟨_, (pss_cons (ps_if (pt_cmpR op_lt (pv 2) pe_int (nomark _)) (pss_one (ps_raiseE rfl T.e_BadNumber (by decide) (by decide) hr (takes_of rfl rfl rfl rfl) (pa_cons pe_str (pa_cons (pv 2) pa_nil)))) pss_nil)
      (pss_cons (ps_set (i := 3) sc_Place_init.nd rfl (Or.inl rfl) (pe_callS (ok_straight_of T) (hr.mono (by decide)) rfl T.g_straight_of T.F_straight_of.kp T.b_straight_of pass0S (pa_cons (pv 1) pa_nil)))
      (pss_cons (ps_set (i := 4) sc_Place_init.nd rfl (Or.inl rfl) (pe_callS (ok_common_divisor T) (hr.mono (by decide)) rfl T.g_common_divisor T.F_common_divisor.kp T.b_common_divisor pass0S (pa_cons (pv 2) (pa_cons (pe_callS (ok_common_divisor T) (hr.mono (by decide)) rfl T.g_common_divisor T.F_common_divisor.kp T.b_common_divisor pass0S (pa_cons (pe_callB G.cAbs (by rfl) T.n_abs (by decide +kernel) (pa_cons (pe_fld (pv 3) rfl) pa_nil)) (pa_cons (pe_callB G.cAbs (by rfl) T.n_abs (by decide +kernel) (pa_cons (pe_fld (pv 3) rfl) pa_nil)) pa_nil))) pa_nil))))
      (pss_cons (ps_fld (pv 0) (pe_makeS T.mk_Straight (ok_Straight_init T) (hr.mono (by decide)) rfl T.g_Straight T.b_Straight_init pass0S (pa_cons (pe_op op_fdiv (pe_fld (pv 3) rfl) (pv 4)) (pa_cons (pe_op op_fdiv (pe_fld (pv 3) rfl) (pv 4)) (pa_cons (pe_op op_fdiv (pe_fld (pv 3) rfl) (pv 4)) pa_nil)))) rfl)
      (pss_one (ps_fld (pv 0) (pe_op op_fdiv (pv 2) (pv 4)) rfl)))))), ?_⟩
    walk_at "g"
    refine G.ite (fun hd1 => ?_) (fun hd1 => ?_)
    · walk_at "g"
      exact G.mkE rfl fun e H' _ s1 he => kE hd1 e H' s1 he
    · walk_at "g"
      refine ⟨y, i, n, o, rfl, hy, fun q H1 s1 ⟨dy, hq⟩ => ?_⟩
      walk_at "g"
      refine ⟨_, _, rfl, by omega, by omega, ?_⟩
      refine ⟨_, _, rfl, by omega, by omega, ?_⟩
      have eg : (Int.gcd d (Int.gcd i.natAbs n.natAbs : Nat) : Int) = gP i n d := by
        unfold gP
        simp [Int.gcd]
      rw [eg]
      have h1 := gP_pos (i := i) (n := n) (d := d) (by omega)
      have h2 := gP_le (i := i) (n := n) (d := d) (by omega)
      walk_at "g"
      refine mkS fun z dz H2 _ s2 hz => ?_
      walk_at "g"
      have := kQ (by omega) z dz H2 (s1.trans s2) hz
      simp only [G.upd_upd, fPlace_put0, fPlace_put1]
      exact this
theorem mkP {E : XK} {H : Hp} {Q : VK} {y : V} {i n o d : Int} (hy : SVal a H y i n o) (hd : d < 1073741824) (kE : d < 1 → ∀ e H', Same H H' → H' e = some (.xd (xBN "divisor" d)) → E (.ref a.C_BadNumber) (some e) H')
    (kQ : 1 ≤ d → ∀ p dx s dy H', Same H H' → H' p = some (.ins a.C_Place dx (fPlace (.ref s) (.int (d / gP i n d)))) → H' s = some (.ins a.C_Straight dy (fStraight (.int (i / gP i n d)) (.int (n / gP i n d)) (.int (o / gP i n d)))) → Q (.ref p) H') : G.rMake a.C_Place (spPInit a) E [y, .int d] H Q := by
  intro x dx hx hdx _
  have s0 := same_made0 (C := a.C_Place) hx hdx
  refine ⟨x, dx, y, i, n, o, d, rfl, upd_same, ?_, hd, fun h1 e H' s1 he => kE h1 e H' (s0.trans s1) he, fun h1 s dy H' s1 hs => ⟨rfl, ?_⟩⟩
  · rcases hy with ⟨q, rfl, dq, hq⟩ | h
    · exact .inl ⟨q, rfl, dq, s0 _ _ hq⟩
    · exact .inr h
  · have hx1 : H' x = some (.ins a.C_Place dx []) := s1 _ _ upd_same
    have ne : s ≠ x := fun z => by
      rw [z, hx1] at hs
      have := (HO.ins.inj (Option.some.inj hs)).2.2
      cases this
    refine kQ h1 x dx s dy _ (fun b u e => ?_) upd_same (by rw [upd_ne ne]; exact hs)
    rw [upd_ne (ne_of_none e hx)]
    exact s1 _ _ (s0 _ _ e)
theorem ok_Straight_floordiv (T : Txt P K mg a) : FnOk P w K mg base (L2.CX P w) 6 a.a_Straight_floordiv a.d_Straight_floordiv ["self", "divisor"] (spPMake a) := by
  refine T.F_Straight_floordiv.okX sc_Straight_floordiv (fun vs H Q E h => ?_) (fun cdv A outer s H vs Q E hr h => ?_)
  · obtain ⟨p, i, n, o, d, rfl, _⟩ := h
    rfl
  · obtain ⟨p, i, n, o, d, rfl, ⟨dx, hp⟩, hd, kE, kQ⟩ := h
    refine ⟨_, (pss_one (ps_ret (pe_makeS T.mk_Place (ok_Place_init T) (hr.mono (by decide)) rfl T.g_Place T.b_Place_init (fun σ => passAt (takes_of rfl rfl rfl rfl) σ) (pa_cons (pv 0) (pa_cons (pv 1) pa_nil))))), ?_⟩
    walk_at "g"
    exact mkP (.inl ⟨p, rfl, dx, hp⟩) hd kE fun h1 p dx s dy H' s1 h2 h3 => kQ h1 p H' s1 ⟨dx, s, dy, h2, h3⟩
theorem ok_Place_call (T : Txt P K mg a) : FnOk P w K mg base CX0 1 a.a_Place_call a.d_Place_call ["self", "i", "n"] (spPCall a) := by
  refine T.F_Place_call.ok sc_Place_call (fun vs H Q E h => ?_) (fun cdv A outer s H vs Q E hr h => ?_)
  · obtain ⟨p, i, n, o, d, x, y, rfl, _⟩ := h
    rfl
  · obtain ⟨p, i, n, o, d, x, y, rfl, ⟨dx, s', dy, hp, hs⟩, ⟨h1, h2⟩, ⟨h3, h4⟩, h5, h6, k⟩ := h
    refine ⟨_, (pss_cons (ps_set (i := 3) sc_Place_call.nd rfl (Or.inl rfl) (pe_fld (pv 0) rfl))
      (pss_one (ps_ret (pe_op op_fdiv (pe_op op_add (pe_op op_add (pe_op op_mul (pe_fld (pv 3) rfl) (pv 1)) (pe_op op_mul (pe_fld (pv 3) rfl) (pv 2))) (pe_fld (pv 3) rfl)) (pe_fld (pv 0) rfl))))), ?_⟩
    walk_at "g"
    exact k
theorem ok_Place_eq (T : Txt P K mg a) : FnOk P w K mg base CX0 2 a.a_Place_eq a.d_Place_eq ["self", "other"] (spPEq K a) := by
  refine T.F_Place_eq.ok sc_Place_eq (fun vs H Q E h => ?_) (fun cdv A outer s H vs Q E hr h => ?_)
  · obtain ⟨p, i, n, o, d, y, rfl, _⟩ := h
    rfl
  · obtain ⟨p, i, n, o, d, y, rfl, ⟨dx, s', dy, hp, hs⟩, k⟩ := h
    refine ⟨_, (pss_one (ps_ret (pe_and (pe_callB call_isi (by rfl) T.n_isinstance (by decide +kernel) (pa_cons (pv 1) (pa_cons (pe_glob (v := .ref a.C_Place) rfl T.g_Place rfl) pa_nil))) (pe_and (pe_cmpR (op_eqO T.at_Straight_eq T.i_Straight_eq (ok_Straight_eq T) (hr.mono (by decide)) T.b_Straight_eq pass0S) (pe_fld (pv 0) rfl) (pe_fld (pv 1) rfl) (nomark _)) (pe_one (pe_cmpR op_eq (pe_fld (pv 0) rfl) (pe_fld (pv 1) rfl) (nomark _))))))), ?_⟩
    walk_at "g"
    rcases k with ⟨q, i', n', o', d', rfl, ⟨dx', s2, dy', hq, hq2⟩, k⟩ | ⟨⟨t, ty, ki⟩, k⟩
    · refine ⟨_, _, _, _, true, rfl, .own _, ty_P T hq, T.ki_P_P, ?_⟩
      walk_at "g"
      refine ⟨s', dy, _, _, rfl, hs, ty_S T hq2, by simp [PySem.W.notFirst], s', i, n, o, .ref s2, rfl, ⟨dy, hs⟩, .inl ⟨s2, i', n', o', rfl, ⟨dy', hq2⟩, ?_⟩⟩
      walk_at "g"
      refine G.ite (fun e1 => ?_) (fun e1 => ?_)
      · walk_at "g"
        have e : decide (i = i' ∧ n = n' ∧ o = o' ∧ d = d') = decide (d = d') := by simp [e1]
        rw [← e]; exact k
      · have e : decide (i = i' ∧ n = n' ∧ o = o' ∧ d = d') = false := by
          apply decide_eq_false
          intro h
          exact e1 ⟨h.1, h.2.1, h.2.2.1⟩
        rw [← e]; exact k
    · refine ⟨_, _, _, _, false, rfl, .own _, ty, ki, ?_⟩
      walk_at "g"
      exact k
theorem ok_Place_replaced (T : Txt P K mg a) : FnOk P w K mg base CX0 6 a.a_Place_replaced a.d_Place_replaced ["self", "factor", "shift"] (spPRep a) := by
  refine T.F_Place_replaced.ok sc_Place_replaced (fun vs H Q E h => ?_) (fun cdv A outer s H vs Q E hr h => ?_)
  · obtain ⟨p, i, n, o, d, f, s, rfl, _⟩ := h
    rfl
  · obtain ⟨p, i, n, o, d, f, sh, rfl, ⟨dx, s', dy, hp, hs⟩, hf, hsh, h5, h6, k⟩ := h
    refine ⟨_, (pss_one (ps_ret (pe_makeS T.mk_Place (ok_Place_init T) (hr.mono (by decide)) rfl T.g_Place T.b_Place_init passLS (pa_cons (pe_methZ (pe_fld (pv 0) rfl) T.cl_Straight T.m_Straight_replaced (ok_Straight_replaced T) (hr.mono (by decide)) T.b_Straight_replaced pass0S (pa_cons (pv 1) (pa_cons (pv 2) pa_nil))) (pa_cons (pe_fld (pv 0) rfl) pa_nil))))), ?_⟩
    walk_at "g"
    refine ⟨s', dy, _, rfl, hs, fStraight_no_replaced .., ?_⟩
    walk_at "g"
    refine ⟨s', i, n, o, f, sh, rfl, ⟨dy, hs⟩, hf, hsh, fun q H1 s1 ⟨dq, hq⟩ => ?_⟩
    walk_at "g"
    refine mkP (.inl ⟨q, rfl, dq, hq⟩) h6 (fun hd1 => by omega) fun h1 p' dx' s3 dy' H' s2 h2 h3 => k p' H' (s1.trans s2) ⟨dx', s3, dy', h2, h3⟩
end
end Lw
namespace Lw
open PySem L2
/-! ### places in plain numbers -/
theorem gP_dvd_i {i n d : Int} : gP i n d ∣ i := Int.dvd_trans (Int.gcd_dvd_right ..) (Int.gcd_dvd_left ..)
theorem gP_dvd_n {i n d : Int} : gP i n d ∣ n := Int.dvd_trans (Int.gcd_dvd_right ..) (Int.gcd_dvd_right ..)
theorem gP_mul {g i n d : Int} (hg : 0 ≤ g) : gP (g * i) (g * n) (g * d) = g * gP i n d := by
  obtain ⟨k, rfl⟩ := Int.eq_ofNat_of_zero_le hg
  unfold gP
  have e1 : Int.gcd ((k : Int) * i) ((k : Int) * n) = k * Int.gcd i n := by
    rw [Int.gcd_mul_left, Int.natAbs_natCast]
  rw [e1, Int.natCast_mul, Int.gcd_mul_left, Int.natAbs_natCast, Int.natCast_mul]
theorem ediv_add {g q o : Int} (hg : 0 < g) : (g * q + o) / g = q + o / g := by
  rw [Int.add_comm, Int.add_mul_ediv_left _ _ (by omega), Int.add_comm]
/-- the least form has the same values -/
theorem val_least {i n o d x y : Int} (hd : 1 ≤ d) : (i / gP i n d * x + n / gP i n d * y + o / gP i n d) / (d / gP i n d) = (i * x + n * y + o) / d := by
  have hg := gP_pos (i := i) (n := n) hd
  obtain ⟨i', hi⟩ := gP_dvd_i (i := i) (n := n) (d := d)
  obtain ⟨n', hn⟩ := gP_dvd_n (i := i) (n := n) (d := d)
  obtain ⟨d', hd'⟩ := gP_dvd (i := i) (n := n) (d := d)
  generalize hgg : gP i n d = g at *
  have e1 : i / g = i' := by rw [hi, Int.mul_ediv_cancel_left _ (by omega)]
  have e2 : n / g = n' := by rw [hn, Int.mul_ediv_cancel_left _ (by omega)]
  have e3 : d / g = d' := by rw [hd', Int.mul_ediv_cancel_left _ (by omega)]
  rw [e1, e2, e3]
  have e4 : (i * x + n * y + o) / d = (i * x + n * y + o) / g / d' := by rw [hd', Int.ediv_ediv_of_nonneg (by omega)]
  have e5 : i * x + n * y + o = g * (i' * x + n' * y) + o := by rw [hi, hn, Int.mul_add, Int.mul_assoc, Int.mul_assoc]
  rw [e4, e5, ediv_add hg]
/-- the least form of a place whose counter is replaced, from the least form and from the place itself -/
theorem least_rep {i n o d f s : Int} (hd : 1 ≤ d) :
    gP (i * f) n d = gP i n d * gP (i / gP i n d * f) (n / gP i n d) (d / gP i n d) ∧
    (i / gP i n d * f) / gP (i / gP i n d * f) (n / gP i n d) (d / gP i n d) = (i * f) / gP (i * f) n d ∧
    (n / gP i n d) / gP (i / gP i n d * f) (n / gP i n d) (d / gP i n d) = n / gP (i * f) n d ∧
    (o / gP i n d + i / gP i n d * s) / gP (i / gP i n d * f) (n / gP i n d) (d / gP i n d) = (i * s + o) / gP (i * f) n d ∧
    (d / gP i n d) / gP (i / gP i n d * f) (n / gP i n d) (d / gP i n d) = d / gP (i * f) n d := by
  have hg := gP_pos (i := i) (n := n) hd
  obtain ⟨i', hi⟩ := gP_dvd_i (i := i) (n := n) (d := d)
  obtain ⟨n', hn⟩ := gP_dvd_n (i := i) (n := n) (d := d)
  obtain ⟨d', hd'⟩ := gP_dvd (i := i) (n := n) (d := d)
  generalize hgg : gP i n d = g at *
  have e1 : i / g = i' := by rw [hi, Int.mul_ediv_cancel_left _ (by omega)]
  have e2 : n / g = n' := by rw [hn, Int.mul_ediv_cancel_left _ (by omega)]
  have e3 : d / g = d' := by rw [hd', Int.mul_ediv_cancel_left _ (by omega)]
  rw [e1, e2, e3]
  have eg : gP (i * f) n d = g * gP (i' * f) n' d' := by
    rw [hi, hn, hd', Int.mul_assoc, gP_mul (by omega)]
  have q : ∀ z : Int, z / (g * gP (i' * f) n' d') = z / g / gP (i' * f) n' d' := fun z => (Int.ediv_ediv_of_nonneg (by omega)).symm
  refine ⟨eg, ?_, ?_, ?_, ?_⟩
  · rw [eg, q, hi, Int.mul_assoc, Int.mul_ediv_cancel_left _ (by omega)]
  · rw [eg, q, hn, Int.mul_ediv_cancel_left _ (by omega)]
  · rw [eg, q, hi, Int.mul_assoc, ediv_add hg, Int.add_comm]
  · rw [eg, q, hd', Int.mul_ediv_cancel_left _ (by omega)]
theorem gP_zero {d : Int} (hd : 1 ≤ d) : gP 0 0 d = d := by
  unfold gP
  simp [Int.gcd]
  omega
end Lw
local macro_rules | `(tactic| walk_at "hp") => `(tactic| first
  | assumption
  | exact L2.upd_same
  | (refine G.sget (by assumption) ?_; walk_at "hp")
  | (refine G.kget (by assumption) ?_ ?_; (· walk_at "hp"); (· intro _ h; cases h)))
local macro_rules | `(tactic| walk_at "s") => `(tactic| first
  | (with_reducible refine G.seq ?_)
  | (with_reducible refine G.nx ?_)
  | (with_reducible refine G.rt ?_)
  | (with_reducible refine G.next ?_)
  | (with_reducible refine G.asg ?_)
  | (with_reducible refine G.asgG ?_)
  | ((with_reducible refine' G.gtup ?h ?l ?q); (case h => walk_at "hp"); (case l => rfl))
  | (with_reducible refine G.gcons ?_)
  | (with_reducible refine G.gnil ?_)
  | (with_reducible refine G.gname ?_)
  | (with_reducible refine G.inst ?_)
  | (with_reducible refine G.refV ?_)
  | (with_reducible refine G.xf ?_)
  | ((with_reducible refine' G.xfV ?h ?l ?q); (case h => walk_at "hp"); (case l => walk_at "xk"))
  | (with_reducible refine G.ret ?_)
  | (with_reducible refine G.ifS ?_)
  | (with_reducible refine G.drop ?_)
  | ((with_reducible refine' G.var ?h ?q); (case h => rfl))
  | (with_reducible refine G.cst ?_)
  | (with_reducible refine G.op ?_)
  | (with_reducible refine G.un ?_)
  | (with_reducible refine G.I0 ?_)
  | (with_reducible refine G.U1 ?_)
  | ((with_reducible refine G.fdiv ?_ ?_ ?_); (· omega); (· omega))
  | ((with_reducible refine G.md ?_ ?_); (· omega))
  | ((with_reducible refine G.mulL ?_ ?_ ?_); (· omega); (· omega))
  | ((with_reducible refine G.mulR ?_ ?_ ?_); (· omega); (· omega))
  | (with_reducible refine G.pow18 ?_)
  | (with_reducible refine G.pow6 ?_)
  | (with_reducible refine G.pow30 ?_)
  | (with_reducible refine G.pow29 ?_)
  | (with_reducible refine G.pow3 ?_)
  | (with_reducible refine G.eqI ?_)
  | (with_reducible refine G.neI ?_)
  | ((with_reducible refine G.eq ?_ ?_); (· rfl))
  | ((with_reducible refine G.ne ?_ ?_); (· rfl))
  | (with_reducible refine G.isN ?_)
  | (with_reducible refine G.notN ?_)
  | (with_reducible refine G.test ?_)
  | (with_reducible refine G.tBv ?_)
  | (with_reducible refine G.bl ?_)
  | (with_reducible refine G.and ?_)
  | (with_reducible refine G.or ?_)
  | (with_reducible refine G.not ?_)
  | (with_reducible refine G.andV ?_)
  | (with_reducible refine G.orV ?_)
  | (with_reducible refine G.notV ?_)
  | (with_reducible refine G.ifE ?_)
  | (with_reducible refine G.nil ?_)
  | (with_reducible refine G.cons ?_)
  | (with_reducible refine G.tup ?_)
  | (with_reducible refine G.lst ?_)
  | (with_reducible refine G.fld ?_)
  | (with_reducible refine G.call ?_)
  | (with_reducible refine G.cb ?_)
  | (with_reducible refine G.make ?_)
  | (with_reducible refine G.dget ?_)
  | (with_reducible refine G.dput ?_)
  | (with_reducible refine G.fldS ?_)
  | (with_reducible refine G.abs ?_)
  | (with_reducible refine G.max2 ?_)
  | (with_reducible refine G.min2 ?_)
  | (with_reducible refine G.int1 ?_)
  | (with_reducible refine G.own ?_)
  | (with_reducible refine G.ownR ?_)
  | (with_reducible refine G.meth ?_)
  | (with_reducible refine G.par ?_)
  | (with_reducible refine G.par3 ?_)
  | (with_reducible refine G.parV ?_)
  | (with_reducible refine G.parV3 ?_)
  | (with_reducible refine G.forR ?_)
  | (with_reducible refine G.raiseE ?_)
  | (with_reducible refine G.iteT' ?_)
  | (with_reducible refine G.iteNT ?_)
  | (with_reducible refine G.iteNF ?_)
  | (with_reducible refine G.iteF' ?_)
  | ((with_reducible refine' G.dgetS ?h ?l ?q); (case h => walk_at "hp"); (case l => walk_at "dk"))
  | ((with_reducible refine' G.lenL ?h ?q); (case h => walk_at "hp"))
  | ((with_reducible refine' G.lenT ?h ?q); (case h => walk_at "hp"))
  | ((with_reducible refine' G.fldV ?h ?c ?n ?l ?q); (case h => walk_at "hp"); (case c => walk_at "cls"); (case n => walk_at "na"); (case l => walk_at "lk"))
  | ((with_reducible refine' G.fldSV ?h ?c ?n ?l ?q); (case h => walk_at "hp"); (case c => walk_at "cls"); (case n => walk_at "na"); (case l => walk_at "ln")))
local macro_rules | `(tactic| walk_at "g") => `(tactic| repeat (walk_at "s"))
namespace Lw
open PySem L2
local macro_rules | `(tactic| walk_at "cls") => `(tactic| first | exact Lw.Txt.cl_Straight (by assumption) | exact Lw.Txt.cl_Place (by assumption))
local macro_rules | `(tactic| walk_at "na") => `(tactic| first | exact Lw.Txt.na_Straight_i (by assumption) | exact Lw.Txt.na_Straight_n (by assumption) | exact Lw.Txt.na_Straight_one (by assumption) | exact Lw.Txt.na_Place_straight (by assumption) | exact Lw.Txt.na_Place_divisor (by assumption))
local macro_rules | `(tactic| walk_at "lk") => `(tactic| first | exact Lw.fStraight_i _ _ _ | exact Lw.fStraight_n _ _ _ | exact Lw.fStraight_one _ _ _ | exact Lw.fPlace_straight _ _ | exact Lw.fPlace_divisor _ _)
local macro_rules | `(tactic| walk_at "ln") => `(tactic| first | (show 0 < 1000; decide) | (show 1 < 1000; decide) | (show 2 < 1000; decide) | (show 3 < 1000; decide) | (show 4 < 1000; decide))
/-! ### the pen of the law -/
def pd (c : V) (s l : Int) : List (Key × V) := [(Sum.inr "cells", c), (Sum.inr "at", .int s), (Sum.inr "left", .int l)]
theorem pd_cells (c : V) (s l : Int) : valV (pd c s l) (Sum.inr ("cells" : Str)) = some c := by kernel_rfl
theorem pd_at (c : V) (s l : Int) : valV (pd c s l) (Sum.inr ("at" : Str)) = some (.int s) := by kernel_rfl
theorem pd_left (c : V) (s l : Int) : valV (pd c s l) (Sum.inr ("left" : Str)) = some (.int l) := by kernel_rfl
theorem pd_put_at (c : V) (s l x : Int) : putK (pd c s l) (Sum.inr ("at" : Str)) (.int x) = pd c x l := by kernel_rfl
theorem pd_put_left (c : V) (s l x : Int) : putK (pd c s l) (Sum.inr ("left" : Str)) (.int x) = pd c s x := by kernel_rfl
theorem pd_new (c : V) : mergeK [] [(Sum.inr ("cells" : Str), c), (Sum.inr ("at" : Str), .int 0), (Sum.inr ("left" : Str), .int 0)] = pd c 0 0 := by kernel_rfl
/-- at p a pen that has drawn at most n times -/
def Pen (H : Hp) (p : Addr) (n : Int) : Prop := ∃ (l : Addr) (cs : List Int) (s r : Int), H p = some (.dK (pd (.ref l) s r)) ∧ H l = some (.lst (cs.map V.int)) ∧ cs.length ≤ 63 ∧ 0 ≤ s ∧ s ≤ n ∧ 0 ≤ r
theorem Pen.same {H H' : Hp} {p : Addr} {n : Int} (h : Pen H p n) (s : Same H H') : Pen H' p n := by
  obtain ⟨l, cs, x, r, h1, h2, h3⟩ := h
  exact ⟨l, cs, x, r, s _ _ h1, s _ _ h2, h3⟩
theorem Pen.mono {H : Hp} {p : Addr} {n m : Int} (h : Pen H p n) (hm : n ≤ m) : Pen H p m := by
  obtain ⟨l, cs, x, r, h1, h2, h3, h4, h5, h6⟩ := h
  exact ⟨l, cs, x, r, h1, h2, h3, h4, by omega, h6⟩
def spPen (K : PySem.W.Frag) : Sp := fun vs H Q _ => ∃ (s : Addr) (ns : List Int), vs = [.ref s] ∧ SqL K H s (ns.map V.int) ∧ ∀ p H', Same H H' → Pen H' p 0 → Q (.ref p) H'
def spDraw : Sp := fun vs H Q _ => ∃ (p : Addr) (m n : Int), vs = [.ref p, .int m] ∧ Pen H p n ∧ n ≤ 1000000000000 ∧ 0 < m ∧ m < 1073741824 ∧ ∀ r H', G.Kp H H' → Pen H' p (n + 1) → 0 ≤ r → r < m → Q (.int r) H'
def spBig : Sp := fun vs H Q _ => ∃ (p : Addr) (m n : Int), vs = [.ref p, .int m] ∧ Pen H p n ∧ n ≤ 100000000000 ∧ 0 < m ∧ m.natAbs.log2 < 1920 ∧ (Str.ofString (toString m)).length ≤ 600 ∧ ∀ r H', G.Kp H H' → Pen H' p (n + 1000) → 0 ≤ r → r < m → Q (.int r) H'
def spBetween : Sp := fun vs H Q _ => ∃ (p : Addr) (lo hi n : Int), vs = [.ref p, .int lo, .int hi] ∧ Pen H p n ∧ n ≤ 100000000000 ∧ lo ≤ hi ∧ hi - lo < 1000000000 ∧ ∀ r H', G.Kp H H' → Pen H' p (n + 2) → lo ≤ r → r ≤ hi → Q (.int r) H'
def spFar : Sp := fun vs H Q _ => ∃ (p : Addr) (n : Int), vs = [.ref p] ∧ Pen H p n ∧ n ≤ 10000000000 ∧ ∀ r H', G.Kp H H' → Pen H' p (n + 2000) → 0 ≤ r → r < 1000000000000000000000000000000 → Q (.int r) H'
local macro_rules | `(tactic| walk_at "dk") => `(tactic| first | exact Lw.pd_cells _ _ _ | exact Lw.pd_at _ _ _ | exact Lw.pd_left _ _ _)
theorem kp_pen {H : Hp} {p : Addr} {kvs kvs' : List (Key × V)} (h : H p = some (.dK kvs)) : G.Kp H (upd H p (.dK kvs')) := fun b u e n => by
  by_cases hb : b = p
  · subst hb
    rw [h] at e
    exact absurd (Option.some.inj e).symm (n kvs)
  · rw [upd_ne hb]
    exact e
theorem put_at {H : Hp} {p : Addr} {c : V} {s l x : Int} {f : Hp → Prop} (h : H p = some (.dK (pd c s l))) (q : ∀ H', G.Kp H H' → H' p = some (.dK (pd c x l)) → f H') : G.rDPut (.int x) (.ref p) (.str "at") H f :=
  G.dputS h (by show 3 < 100000; decide) (by rw [pd_put_at]; exact q _ (kp_pen h) upd_same)
theorem put_left {H : Hp} {p : Addr} {c : V} {s l x : Int} {f : Hp → Prop} (h : H p = some (.dK (pd c s l))) (q : ∀ H', G.Kp H H' → H' p = some (.dK (pd c s x)) → f H') : G.rDPut (.int x) (.ref p) (.str "left") H f :=
  G.dputS h (by show 3 < 100000; decide) (by rw [pd_put_left]; exact q _ (kp_pen h) upd_same)
theorem eqv_nil (cs : List Int) : PyData.eqv (.list (cs.map PyData.int)) (.list []) = decide (cs = []) := by
  cases cs with
  | nil => simp [PyData.eqv, PyData.eqvAll]
  | cons c r => simp [PyData.eqv, PyData.eqvAll]
section
variable {P : Program} {w : World} {K : PySem.W.Frag} {mg : Str → Option Value} {base : Heap} {a : Ad}
theorem cut63 (ns : List Int) : cutV (ns.map V.int) none (some 63) = (ns.take 63).map V.int := by
  unfold cutV
  have e1 : HT.sIx (ns.map V.int).length (ns.map V.int).length (some 63) = min 63 (ns.map V.int).length := HT.sIx_nat _ _ 63
  have e0 : HT.sIx (ns.map V.int).length 0 none = 0 := rfl
  rw [e1, e0, List.drop_zero, Nat.sub_zero, List.map_take, ← List.take_eq_take_min]
theorem ok_pen (T : Txt P K mg a) : FnOk P w K mg base CX0 1 a.a_pen a.d_pen ["_law_script"] (spPen K) := by
  refine T.F_pen.ok sc_pen (fun vs H Q E h => ?_) (fun cdv A outer s H vs Q E hr h => ?_)
  · obtain ⟨s, ns, rfl, _⟩ := h
    rfl
  · obtain ⟨sc, ns, rfl, hs, k⟩ := h
    refine ⟨_, (pss_one (ps_ret (pe_disp (pps_cons pe_str (pe_callTy G.cListOf (by rfl) T.n_list (by decide +kernel) (pa_cons (pe_slice sl_list (pv 0) po_none (po_some pe_int)) pa_nil)) (pps_cons pe_str pe_int (pps_cons pe_str pe_int pps_nil))) (by rfl) (by rfl) (fun z => by cases z) (by decide)))), ?_⟩
    walk_at "g"
    intro p hp
    refine G.cst (G.cb (G.cons ?_))
    refine ⟨_, rfl, ?_⟩
    refine ⟨_, rfl, sc, _, rfl, (G.same_new hp).seq hs, fun l hl => ?_⟩
    walk_at "g"
    refine ⟨l, _, rfl, .inl (SqL.of upd_same), fun l2 hl2 => ?_⟩
    show tC _ _ _ _
    walk_at "g"
    show tC _ _ _ _
    walk_at "g"
    have s1 : Same (upd H p (.dK [])) (upd (upd (upd H p (.dK [])) l (.lst (cutV (ns.map V.int) none (some 63)))) l2 (.lst (cutV (ns.map V.int) none (some 63)))) := (G.same_new hl).trans (G.same_new hl2)
    refine ⟨s1 _ _ upd_same, [(Sum.inr "cells", .ref l2), (Sum.inr "at", .int 0), (Sum.inr "left", .int 0)], rfl, by show 3 ≤ 15; decide, ?_⟩
    rw [pd_new]
    walk_at "g"
    have np : l2 ≠ p := fun z => by
      rw [z] at hl2
      rw [G.same_new hl _ _ upd_same] at hl2
      cases hl2
    refine k p _ (fun b u e => ?_) ⟨l2, ns.take 63, 0, 0, upd_same, ?_, ?_, by omega, by omega, by omega⟩
    · rw [upd_ne (ne_of_none e hp)]
      exact s1 _ _ (G.same_new hp _ _ e)
    · rw [upd_ne np, upd_same, cut63]
    · rw [List.length_take]; omega
theorem ok_draw (T : Txt P K mg a) : FnOk P w K mg base CX0 1 a.a_draw a.d_draw ["_law_pen_here", "_law_many"] spDraw := by
  refine T.F_draw.ok sc_draw (fun vs H Q E h => ?_) (fun cdv A outer s H vs Q E hr h => ?_)
  · obtain ⟨p, m, n, rfl, _⟩ := h
    rfl
  · obtain ⟨p, m, n, rfl, ⟨l, cs, x, r, hp, hl, hc, hx0, hx1, hr0⟩, hn, hm, hm2, k⟩ := h
    refine ⟨_, (pss_cons (ps_if (pt_cmpR op_ge (pe_dget (hu_of hr) (pv 0) pe_str (fun _ _ => rfl)) (pv 1) (nomark _)) (pss_cons (ps_set (i := 2) sc_draw.nd rfl (Or.inl rfl) (pe_op op_mod (pe_callTy G.cInt1 (by rfl) T.n_int (by decide +kernel) (pa_cons (pe_dget (hu_of hr) (pv 0) pe_str (fun _ _ => rfl)) pa_nil)) (pv 1)))
      (pss_cons (ps_dput (hu_of hr) (pv 0) pe_str (pe_op op_fdiv (pe_dget (hu_of hr) (pv 0) pe_str (fun _ _ => rfl)) (pv 1)) rfl)
      (pss_one (ps_ret (pv 2))))) pss_nil)
      (pss_cons (ps_set (i := 3) sc_draw.nd rfl (Or.inl rfl) (pe_dget (hu_of hr) (pv 0) pe_str (fun _ _ => rfl)))
      (pss_cons (ps_dput (hu_of hr) (pv 0) pe_str (pe_op op_add (pv 3) pe_int) rfl)
      (pss_cons (ps_if (pt_cmpR (op_eqD hr.units) (pe_dget (hu_of hr) (pv 0) pe_str (fun _ _ => rfl)) (pe_lst pa_nil) (nomark _)) (pss_one (ps_ret (pe_op op_mod (pe_callTy G.cInt1 (by rfl) T.n_int (by decide +kernel) (pa_cons (pe_op op_add (pe_op op_mul pe_int (pv 3)) pe_int) pa_nil)) (pv 1)))) pss_nil)
      (pss_cons (ps_set (i := 4) sc_draw.nd rfl (Or.inl rfl) (pe_ix ix_list (pe_dget (hu_of hr) (pv 0) pe_str (fun _ _ => rfl)) (pe_op op_mod (pe_callTy G.cInt1 (by rfl) T.n_int (by decide +kernel) (pa_cons (pv 3) pa_nil)) (pe_callB G.cLenSeq (by rfl) T.n_len (by decide +kernel) (pa_cons (pe_dget (hu_of hr) (pv 0) pe_str (fun _ _ => rfl)) pa_nil))) (fun _ _ => rfl)))
      (pss_cons (ps_if (PW.pt (pw_and (pt_cmpR op_lt (pv 3) (pe_callB G.cLenSeq (by rfl) T.n_len (by decide +kernel) (pa_cons (pe_dget (hu_of hr) (pv 0) pe_str (fun _ _ => rfl)) pa_nil)) (nomark _)) (pw_and1 (pt_cmpR op_ge (pv 4) (pe_op op_pow pe_int pe_int) (nomark _))))) (pss_cons (ps_dput (hu_of hr) (pv 0) pe_str (pe_op op_fdiv (pe_op op_sub (pv 4) (pe_op op_pow pe_int pe_int)) (pv 1)) rfl)
      (pss_one (ps_ret (pe_op op_mod (pe_callTy G.cInt1 (by rfl) T.n_int (by decide +kernel) (pa_cons (pe_op op_sub (pv 4) (pe_op op_pow pe_int pe_int)) pa_nil)) (pv 1))))) pss_nil)
      (pss_cons (ps_set (i := 5) sc_draw.nd rfl (Or.inl rfl) (pe_op op_add (pe_op op_add (pe_op op_mul (pe_op op_add (pe_op op_mod (pe_callTy G.cInt1 (by rfl) T.n_int (by decide +kernel) (pa_cons (pv 4) pa_nil)) pe_int) pe_int) (pe_op op_add (pe_op op_mul pe_int (pv 3)) pe_int)) (pe_op op_mul (pe_op op_mul pe_int (pv 3)) (pv 3))) pe_int))
      (pss_cons (ps_set (i := 5) sc_draw.nd rfl (Or.inl rfl) (pe_op op_mod (pe_callTy G.cInt1 (by rfl) T.n_int (by decide +kernel) (pa_cons (pv 5) pa_nil)) pe_int))
      (pss_cons (ps_set (i := 5) sc_draw.nd rfl (Or.inl rfl) (pe_op op_mod (pe_callTy G.cInt1 (by rfl) T.n_int (by decide +kernel) (pa_cons (pe_op op_mul (pv 5) (pe_op op_add (pv 5) pe_int)) pa_nil)) pe_int))
      (pss_cons (ps_set (i := 5) sc_draw.nd rfl (Or.inl rfl) (pe_op op_mod (pe_callTy G.cInt1 (by rfl) T.n_int (by decide +kernel) (pa_cons (pe_op op_mul (pv 5) (pv 5)) pa_nil)) pe_int))
      (pss_one (ps_ret (pe_op op_mod (pe_callTy G.cInt1 (by rfl) T.n_int (by decide +kernel) (pa_cons (pe_op op_fdiv (pv 5) pe_int) pa_nil)) (pv 1)))))))))))))), ?_⟩
    walk_at "g"
    refine G.ite (fun h1 => ?_) (fun h1 => ?_)
    · walk_at "g"
      refine put_left hp fun H1 k1 hp1 => ?_
      walk_at "g"
      exact k _ _ k1 ⟨l, cs, x, r / m, hp1, by walk_at "hp", hc, hx0, by omega, Int.ediv_nonneg hr0 (by omega)⟩ (Int.emod_nonneg _ (by omega)) (Int.emod_lt_of_pos _ hm)
    · walk_at "g"
      refine put_at hp fun H1 k1 hp1 => ?_
      have hl1 : H1 l = some (.lst (cs.map V.int)) := by walk_at "hp"
      walk_at "g"
      refine G.newL (by decide) fun q H2 _ s2 hq => ?_
      have hp2 := s2 _ _ hp1
      refine G.eqD (k := decide (cs = [])) (G.dpL (by walk_at "hp") (G.dpInts cs)) (G.dpL hq .nil) (PySem.W.shaped_ints cs) (by rfl) (eqv_nil cs) ?_
      walk_at "g"
      refine G.ite (fun h2 => ?_) (fun h2 => ?_)
      · walk_at "g"
        exact k _ _ (k1.then s2) ⟨l, cs, x + 1, r, hp2, by walk_at "hp", hc, by omega, by omega, hr0⟩ (Int.emod_nonneg _ (by omega)) (Int.emod_lt_of_pos _ hm)
      · have hcl : 0 < cs.length := List.length_pos_iff.mpr h2
        walk_at "g"
        rw [List.length_map]
        walk_at "g"
        have hi0 : 0 ≤ x % (cs.length : Int) := Int.emod_nonneg _ (by omega)
        have hi1 : x % (cs.length : Int) < cs.length := Int.emod_lt_of_pos _ (by omega)
        obtain ⟨j, hj⟩ := Int.eq_ofNat_of_zero_le hi0
        have hjl : j < cs.length := by omega
        refine G.ixL (v := .int cs[j]) (by walk_at "hp") (at_of hj (by rw [List.getElem?_map, List.getElem?_eq_getElem hjl]; rfl)) ?_
        walk_at "g"
        rw [List.length_map]
        refine G.ite (fun h3 => ?_) (fun h3 => ?_)
        · walk_at "g"
          refine G.ite (fun h4 => ?_) (fun h4 => ?_)
          · walk_at "g"
            refine put_left hp2 fun H3 k3 hp3 => ?_
            walk_at "g"
            exact k _ _ ((k1.then s2).trans k3) ⟨l, cs, x + 1, _, hp3, by walk_at "hp", hc, by omega, by omega, Int.ediv_nonneg (by omega) (by omega)⟩ (Int.emod_nonneg _ (by omega)) (Int.emod_lt_of_pos _ hm)
          · walk_at "g"
            exact k _ _ (k1.then s2) ⟨l, cs, x + 1, r, hp2, by walk_at "hp", hc, by omega, by omega, hr0⟩ (Int.emod_nonneg _ (by omega)) (Int.emod_lt_of_pos _ hm)
        · walk_at "g"
          exact k _ _ (k1.then s2) ⟨l, cs, x + 1, r, hp2, by walk_at "hp", hc, by omega, by omega, hr0⟩ (Int.emod_nonneg _ (by omega)) (Int.emod_lt_of_pos _ hm)
theorem ok_big (T : Txt P K mg a) : FnOk P w K mg base CX0 2 a.a_big a.d_big ["_law_pen_here", "_law_many"] spBig := by
  refine T.F_big.ok sc_big (fun vs H Q E h => ?_) (fun cdv A outer s H vs Q E hr h => ?_)
  · obtain ⟨p, m, n, rfl, _⟩ := h
    rfl
  · obtain ⟨p, m, n, rfl, pe, hn, hm, hm2, hlen, k⟩ := h
    refine ⟨_, (pss_cons (ps_set (i := 2) sc_big.nd rfl (Or.inl rfl) pe_int)
      (pss_cons (ps_for PassesOwn.never rfl (pi_range1 (by rfl) T.n_range (pa_cons (pe_op op_add (pe_op op_fdiv (pe_callB G.cLenStr (by rfl) T.n_len (by decide +kernel) (pa_cons (pe_callTy G.cStrI (by rfl) T.n_str (by decide +kernel) (pa_cons (pv 1) pa_nil)) pa_nil)) pe_int) pe_int) pa_nil)) (pg_name (i := 3) sc_big.nd rfl (Or.inl rfl))
      (pss_one (ps_set (i := 2) sc_big.nd rfl (Or.inl rfl) (pe_op op_add (pe_op op_mul (pv 2) (pe_op op_pow pe_int pe_int)) (pe_callS (ok_draw T) (hr.mono (by decide)) rfl T.g_draw T.F_draw.kp T.b_draw pass0S (pa_cons (pv 0) (pa_cons (pe_op op_pow pe_int pe_int) pa_nil)))))))
      (pss_one (ps_ret (pe_op op_mod (pe_callTy G.cInt1 (by rfl) T.n_int (by decide +kernel) (pa_cons (pv 2) pa_nil)) (pv 1)))))), ?_⟩
    walk_at "g"
    refine G.strI hm2 ?_
    walk_at "g"
    refine G.lenS (by omega) ?_
    walk_at "g"
    refine G.forR1 (fun i σ H' => ∃ (f : Int) (v : Option V), σ = [some (.ref p), some (.int m), some (.int f), v] ∧ 0 ≤ f ∧ G.Kp H H' ∧ Pen H' p (n + i)) (by omega) ⟨0, none, rfl, by omega, G.Kp.refl H, pe.mono (by omega)⟩ ?_ ?_
    · rintro i σ H' hi ⟨f, v, rfl, hf, k1, pe1⟩
      walk_at "g"
      refine ⟨p, _, n + i, rfl, pe1, by omega, by omega, by omega, fun r H2 k2 pe2 h1 h2 => ?_⟩
      walk_at "g"
      exact ⟨_, _, rfl, by omega, k1.trans k2, pe2.mono (by omega)⟩
    · rintro σ H' ⟨f, v, rfl, hf, k1, pe1⟩
      walk_at "g"
      exact k _ _ k1 (pe1.mono (by omega)) (Int.emod_nonneg _ (by omega)) (Int.emod_lt_of_pos _ hm)
theorem ok_between (T : Txt P K mg a) : FnOk P w K mg base CX0 2 a.a_between a.d_between ["_law_pen_here", "_law_least", "_law_most"] spBetween := by
  refine T.F_between.ok sc_between (fun vs H Q E h => ?_) (fun cdv A outer s H vs Q E hr h => ?_)
  · obtain ⟨p, lo, hi, n, rfl, _⟩ := h
    rfl
  · obtain ⟨p, lo, hi, n, rfl, pe, hn, hlh, hb, k⟩ := h
    refine ⟨_, (pss_cons (ps_set (i := 3) sc_between.nd rfl (Or.inl rfl) (pe_callS (ok_draw T) (hr.mono (by decide)) rfl T.g_draw T.F_draw.kp T.b_draw pass0S (pa_cons (pv 0) (pa_cons pe_int pa_nil))))
      (pss_cons (ps_if (pt_cmpR op_lt (pv 3) pe_int (nomark _)) (pss_one (ps_set (i := 4) sc_between.nd rfl (Or.inl rfl) (pe_op op_sub (pe_callS (ok_draw T) (hr.mono (by decide)) rfl T.g_draw T.F_draw.kp T.b_draw pass0S (pa_cons (pv 0) (pa_cons pe_int pa_nil))) pe_int))) (pss_one (ps_if (pt_cmpR op_eq (pv 3) pe_int (nomark _)) (pss_one (ps_set (i := 4) sc_between.nd rfl (Or.inl rfl) (pe_ix ix_list (pe_lst (pa_cons (pv 1) (pa_cons (pv 2) (pa_cons (pe_op op_add (pv 1) pe_int) (pa_cons (pe_op op_sub (pv 2) pe_int) pa_nil))))) (pe_callS (ok_draw T) (hr.mono (by decide)) rfl T.g_draw T.F_draw.kp T.b_draw pass0S (pa_cons (pv 0) (pa_cons pe_int pa_nil))) (fun _ _ => rfl)))) (pss_one (ps_set (i := 4) sc_between.nd rfl (Or.inl rfl) (pe_op op_add (pv 1) (pe_callS (ok_draw T) (hr.mono (by decide)) rfl T.g_draw T.F_draw.kp T.b_draw pass0S (pa_cons (pv 0) (pa_cons (pe_op op_add (pe_op op_sub (pv 2) (pv 1)) pe_int) pa_nil)))))))))
      (pss_one (ps_ret (pe_callB (G.cMax2 rfl) (by rfl) T.n_max (by decide +kernel) (pa_cons (pv 1) (pa_cons (pe_callB (G.cMin2 rfl) (by rfl) T.n_min (by decide +kernel) (pa_cons (pv 2) (pa_cons (pv 4) pa_nil))) pa_nil))))))), ?_⟩
    walk_at "g"
    refine ⟨p, 4, n, rfl, pe, by omega, by omega, by omega, fun r1 H1 k1 pe1 h1 h2 => ?_⟩
    walk_at "g"
    refine G.ite (fun h3 => ?_) (fun h3 => ?_)
    · walk_at "g"
      refine ⟨p, 7, n + 1, rfl, pe1, by omega, by omega, by omega, fun r2 H2 k2 pe2 h4 h5 => ?_⟩
      walk_at "g"
      exact k _ _ (k1.trans k2) (pe2.mono (by omega)) (by omega) (by omega)
    · walk_at "g"
      refine G.ite (fun h6 => ?_) (fun h6 => ?_)
      · walk_at "g"
        refine G.newL (by simp) fun q H2 _ s2 hq => ?_
        walk_at "g"
        refine ⟨p, 4, n + 1, rfl, pe1.same s2, by omega, by omega, by omega, fun r2 H3 k2 pe2 h4 h5 => ?_⟩
        walk_at "g"
        obtain ⟨j, rfl⟩ := Int.eq_ofNat_of_zero_le h4
        have hj : j < 4 := by omega
        have fin : ∀ v : Int, lo ≤ hi → Q (.int (max lo (min hi v))) H3 := fun v _ => k _ _ ((k1.then s2).trans k2) (pe2.mono (by omega)) (by omega) (by omega)
        match j, hj with
        | 0, _ => exact G.ixL (by walk_at "hp") rfl (by walk_at "g"; exact fin _ hlh)
        | 1, _ => exact G.ixL (by walk_at "hp") rfl (by walk_at "g"; exact fin _ hlh)
        | 2, _ => exact G.ixL (by walk_at "hp") rfl (by walk_at "g"; exact fin _ hlh)
        | 3, _ => exact G.ixL (by walk_at "hp") rfl (by walk_at "g"; exact fin _ hlh)
      · walk_at "g"
        refine ⟨p, hi - lo + 1, n + 1, rfl, pe1, by omega, by omega, by omega, fun r2 H2 k2 pe2 h4 h5 => ?_⟩
        walk_at "g"
        exact k _ _ (k1.trans k2) (pe2.mono (by omega)) (by omega) (by omega)
theorem ok_far (T : Txt P K mg a) : FnOk P w K mg base CX0 3 a.a_far a.d_far ["_law_pen_here"] spFar := by
  refine T.F_far.ok sc_far (fun vs H Q E h => ?_) (fun cdv A outer s H vs Q E hr h => ?_)
  · obtain ⟨p, n, rfl, _⟩ := h
    rfl
  · obtain ⟨p, n, rfl, pe, hn, k⟩ := h
    refine ⟨_, (pss_cons (ps_set (i := 1) sc_far.nd rfl (Or.inl rfl) (pe_callS (ok_draw T) (hr.mono (by decide)) rfl T.g_draw T.F_draw.kp T.b_draw pass0S (pa_cons (pv 0) (pa_cons pe_int pa_nil))))
      (pss_cons (ps_if (pt_cmpR op_eq (pv 1) pe_int (nomark _)) (pss_one (ps_ret (pe_callS (ok_draw T) (hr.mono (by decide)) rfl T.g_draw T.F_draw.kp T.b_draw pass0S (pa_cons (pv 0) (pa_cons pe_int pa_nil))))) pss_nil)
      (pss_cons (ps_if (pt_cmpR op_eq (pv 1) pe_int (nomark _)) (pss_one (ps_ret (pe_callS (ok_draw T) (hr.mono (by decide)) rfl T.g_draw T.F_draw.kp T.b_draw pass0S (pa_cons (pv 0) (pa_cons pe_int pa_nil))))) pss_nil)
      (pss_one (ps_ret (pe_callS (ok_big T) (hr.mono (by decide)) rfl T.g_big T.F_big.kp T.b_big pass0S (pa_cons (pv 0) (pa_cons (pe_op op_pow pe_int pe_int) pa_nil)))))))), ?_⟩
    walk_at "g"
    refine ⟨p, 3, n, rfl, pe, by omega, by omega, by omega, fun r1 H1 k1 pe1 h1 h2 => ?_⟩
    walk_at "g"
    refine G.ite (fun h3 => ?_) (fun h3 => ?_)
    · walk_at "g"
      refine ⟨p, 6, n + 1, rfl, pe1, by omega, by omega, by omega, fun r2 H2 k2 pe2 h4 h5 => ?_⟩
      walk_at "g"
      exact k _ _ (k1.trans k2) (pe2.mono (by omega)) (by omega) (by omega)
    · walk_at "g"
      refine G.ite (fun h6 => ?_) (fun h6 => ?_)
      · walk_at "g"
        refine ⟨p, 600, n + 1, rfl, pe1, by omega, by omega, by omega, fun r2 H2 k2 pe2 h4 h5 => ?_⟩
        walk_at "g"
        exact k _ _ (k1.trans k2) (pe2.mono (by omega)) (by omega) (by omega)
      · walk_at "g"
        refine ⟨p, _, n + 1, rfl, pe1, by omega, by omega, by decide +kernel, by decide +kernel, fun r2 H2 k2 pe2 h4 h5 => ?_⟩
        walk_at "g"
        exact k _ _ (k1.trans k2) (pe2.mono (by omega)) (by omega) (by omega)
end
end Lw
local macro_rules | `(tactic| walk_at "hp") => `(tactic| first
  | assumption
  | exact L2.upd_same
  | (refine G.sget (by assumption) ?_; walk_at "hp")
  | (refine G.kget (by assumption) ?_ ?_; (· walk_at "hp"); (· intro _ h; cases h)))
local macro_rules | `(tactic| walk_at "s") => `(tactic| first
  | (with_reducible refine G.seq ?_)
  | (with_reducible refine G.nx ?_)
  | (with_reducible refine G.rt ?_)
  | (with_reducible refine G.next ?_)
  | (with_reducible refine G.asg ?_)
  | (with_reducible refine G.asgG ?_)
  | ((with_reducible refine' G.gtup ?h ?l ?q); (case h => walk_at "hp"); (case l => rfl))
  | (with_reducible refine G.gcons ?_)
  | (with_reducible refine G.gnil ?_)
  | (with_reducible refine G.gname ?_)
  | (with_reducible refine G.inst ?_)
  | (with_reducible refine G.refV ?_)
  | (with_reducible refine G.xf ?_)
  | ((with_reducible refine' G.xfV ?h ?l ?q); (case h => walk_at "hp"); (case l => walk_at "xk"))
  | (with_reducible refine G.ret ?_)
  | (with_reducible refine G.ifS ?_)
  | (with_reducible refine G.drop ?_)
  | ((with_reducible refine' G.var ?h ?q); (case h => rfl))
  | (with_reducible refine G.cst ?_)
  | (with_reducible refine G.op ?_)
  | (with_reducible refine G.un ?_)
  | (with_reducible refine G.I0 ?_)
  | (with_reducible refine G.U1 ?_)
  | ((with_reducible refine G.fdiv ?_ ?_ ?_); (· omega); (· omega))
  | ((with_reducible refine G.md ?_ ?_); (· omega))
  | ((with_reducible refine G.mulL ?_ ?_ ?_); (· omega); (· omega))
  | ((with_reducible refine G.mulR ?_ ?_ ?_); (· omega); (· omega))
  | (with_reducible refine G.pow18 ?_)
  | (with_reducible refine G.pow6 ?_)
  | (with_reducible refine G.pow30 ?_)
  | (with_reducible refine G.pow29 ?_)
  | (with_reducible refine G.pow3 ?_)
  | (with_reducible refine G.eqI ?_)
  | (with_reducible refine G.neI ?_)
  | ((with_reducible refine G.eq ?_ ?_); (· rfl))
  | ((with_reducible refine G.ne ?_ ?_); (· rfl))
  | (with_reducible refine G.isN ?_)
  | (with_reducible refine G.notN ?_)
  | (with_reducible refine G.test ?_)
  | (with_reducible refine G.tBv ?_)
  | (with_reducible refine G.bl ?_)
  | (with_reducible refine G.and ?_)
  | (with_reducible refine G.or ?_)
  | (with_reducible refine G.not ?_)
  | (with_reducible refine G.andV ?_)
  | (with_reducible refine G.orV ?_)
  | (with_reducible refine G.notV ?_)
  | (with_reducible refine G.ifE ?_)
  | (with_reducible refine G.nil ?_)
  | (with_reducible refine G.cons ?_)
  | (with_reducible refine G.tup ?_)
  | (with_reducible refine G.lst ?_)
  | (with_reducible refine G.fld ?_)
  | (with_reducible refine G.call ?_)
  | (with_reducible refine G.cb ?_)
  | (with_reducible refine G.make ?_)
  | (with_reducible refine G.dget ?_)
  | (with_reducible refine G.dput ?_)
  | (with_reducible refine G.fldS ?_)
  | (with_reducible refine G.abs ?_)
  | (with_reducible refine G.max2 ?_)
  | (with_reducible refine G.min2 ?_)
  | (with_reducible refine G.int1 ?_)
  | (with_reducible refine G.own ?_)
  | (with_reducible refine G.ownR ?_)
  | (with_reducible refine G.meth ?_)
  | (with_reducible refine G.par ?_)
  | (with_reducible refine G.par3 ?_)
  | (with_reducible refine G.parV ?_)
  | (with_reducible refine G.parV3 ?_)
  | (with_reducible refine G.forR ?_)
  | (with_reducible refine G.raiseE ?_)
  | (with_reducible refine G.iteT' ?_)
  | (with_reducible refine G.iteNT ?_)
  | (with_reducible refine G.iteNF ?_)
  | (with_reducible refine G.iteF' ?_)
  | ((with_reducible refine' G.dgetS ?h ?l ?q); (case h => walk_at "hp"); (case l => walk_at "dk"))
  | ((with_reducible refine' G.lenL ?h ?q); (case h => walk_at "hp"))
  | ((with_reducible refine' G.lenT ?h ?q); (case h => walk_at "hp"))
  | ((with_reducible refine' G.fldV ?h ?c ?n ?l ?q); (case h => walk_at "hp"); (case c => walk_at "cls"); (case n => walk_at "na"); (case l => walk_at "lk"))
  | ((with_reducible refine' G.fldSV ?h ?c ?n ?l ?q); (case h => walk_at "hp"); (case c => walk_at "cls"); (case n => walk_at "na"); (case l => walk_at "ln")))
local macro_rules | `(tactic| walk_at "g") => `(tactic| repeat (walk_at "s"))
namespace Lw
open PySem L2
local macro_rules | `(tactic| walk_at "cls") => `(tactic| first | exact Lw.Txt.cl_Straight (by assumption) | exact Lw.Txt.cl_Place (by assumption))
local macro_rules | `(tactic| walk_at "na") => `(tactic| first | exact Lw.Txt.na_Straight_i (by assumption) | exact Lw.Txt.na_Straight_n (by assumption) | exact Lw.Txt.na_Straight_one (by assumption) | exact Lw.Txt.na_Place_straight (by assumption) | exact Lw.Txt.na_Place_divisor (by assumption))
local macro_rules | `(tactic| walk_at "lk") => `(tactic| first | exact Lw.fStraight_i _ _ _ | exact Lw.fStraight_n _ _ _ | exact Lw.fStraight_one _ _ _ | exact Lw.fPlace_straight _ _ | exact Lw.fPlace_divisor _ _)
local macro_rules | `(tactic| walk_at "ln") => `(tactic| first | (show 0 < 1000; decide) | (show 1 < 1000; decide) | (show 2 < 1000; decide) | (show 3 < 1000; decide) | (show 4 < 1000; decide))
theorem xBN_what (wh : Str) (d : Int) : (xBN wh d).lookup ("what" : Str) = some (.str wh) := by kernel_rfl
theorem xBN_number (wh : Str) (d : Int) : (xBN wh d).lookup ("number" : Str) = some (.int d) := by kernel_rfl
local macro_rules | `(tactic| walk_at "xk") => `(tactic| first | exact Lw.xBN_what _ _ | exact Lw.xBN_number _ _)
def spInteger : Sp := fun vs H Q _ => ∃ x : Int, vs = [.int x] ∧ Q (.bl true) H
def spDivisor : Sp := fun vs H Q _ => ∃ (x y : Int), vs = [.int x, .int y] ∧ Q (.int (Int.gcd x y)) H
def spDue : Sp := fun vs H Q _ => ∃ (r : Addr) (i n o d : Int), vs = [.ref r] ∧ H r = some (.tup [.int i, .int n, .int o, .int d]) ∧ 1 ≤ d ∧ d < 1073741824 ∧
  ∀ q H', Same H H' → H' q = some (.tup [.int (i / gP i n d), .int (n / gP i n d), .int (o / gP i n d), .int (d / gP i n d)]) → Q (.ref q) H'
def spRefused : Sp := fun vs H Q _ => ∃ (b z : Int), vs = [.int b, .int z] ∧ b < 1 ∧ ∀ q H', Same H H' → H' q = some (.tup [.str "divisor", .int b]) → Q (.ref q) H'
section
variable {P : Program} {w : World} {K : PySem.W.Frag} {mg : Str → Option Value} {base : Heap} {a : Ad}
theorem ok_integer (T : Txt P K mg a) : FnOk P w K mg base CX0 1 a.a_integer a.d_integer ["_law_value"] spInteger := by
  refine T.F_integer.ok sc_integer (fun vs H Q E h => ?_) (fun cdv A outer s H vs Q E hr h => ?_)
  · obtain ⟨x, rfl, _⟩ := h
    rfl
  · obtain ⟨x, rfl, k⟩ := h
    refine ⟨_, (pss_one (ps_ret (pe_and (pe_callB call_isi (by rfl) T.n_isinstance (by decide +kernel) (pa_cons (pv 0) (pa_cons (pe_bltn (v := .ty "int") (by rfl) T.n_int (by decide +kernel) rfl) pa_nil))) (pe_one (pe_not (pe_callB call_isi (by rfl) T.n_isinstance (by decide +kernel) (pa_cons (pv 0) (pa_cons (pe_bltn (v := .ty "bool") (by rfl) T.n_bool (by decide +kernel) rfl) pa_nil)))))))), ?_⟩
    walk_at "g"
    refine ⟨_, _, _, _, true, rfl, .ty _, .base (.int x), kit_ty (by decide +kernel), ?_⟩
    walk_at "g"
    refine ⟨_, _, _, _, false, rfl, .ty _, .base (.int x), kit_ty (by decide +kernel), ?_⟩
    walk_at "g"
    exact k
theorem ok_divisor (T : Txt P K mg a) : FnOk P w K mg base CX0 1 a.a_divisor a.d_divisor ["_law_a", "_law_b"] spDivisor := by
  refine T.F_divisor.ok sc_divisor (fun vs H Q E h => ?_) (fun cdv A outer s H vs Q E hr h => ?_)
  · obtain ⟨x, y, rfl, _⟩ := h
    rfl
  · obtain ⟨x, y, rfl, k⟩ := h
    refine ⟨_, (pss_cons (ps_par (i := 0) (j := 1) (by rfl) sc_divisor.nd rfl rfl (by decide) rfl rfl (pa_cons (pe_callB G.cAbs (by rfl) T.n_abs (by decide +kernel) (pa_cons (pv 0) pa_nil)) (pa_cons (pe_callB G.cAbs (by rfl) T.n_abs (by decide +kernel) (pa_cons (pv 1) pa_nil)) pa_nil)) (by rfl))
      (pss_cons (ps_while PassesOwn.never (pt_cmpR op_gt (pv 1) pe_int (nomark _)) (pss_one (ps_par (i := 0) (j := 1) (by rfl) sc_divisor.nd rfl rfl (by decide) rfl rfl (pa_cons (pv 1) (pa_cons (pe_op op_mod (pe_callTy G.cInt1 (by rfl) T.n_int (by decide +kernel) (pa_cons (pv 0) pa_nil)) (pv 1)) pa_nil)) (by rfl))))
      (pss_one (ps_ret (pv 0))))), ?_⟩
    walk_at "g"
    refine (G.whl (fun m σ H' => ∃ u v : Nat, σ = [some (.int u), some (.int v)] ∧ H' = H ∧ Nat.gcd u v = Int.gcd x y ∧ m = v) y.natAbs ⟨x.natAbs, y.natAbs, rfl, rfl, rfl, rfl⟩ ?_ ?_)
    · rintro m σ H' ⟨u, v, rfl, rfl, e, rfl⟩
      walk_at "g"
      refine G.ite (fun hv => ?_) (fun hv => ?_)
      · walk_at "g"
        have hm : 0 < m := by omega
        refine ⟨u % m, Nat.mod_lt _ hm, m, u % m, ?_, rfl, ?_, rfl⟩
        · show [some (V.int (m : Int)), some (V.int ((u : Int) % (m : Int)))] = _
          rw [← Int.natCast_emod] 
        · rw [← e, Nat.gcd_comm u m, Nat.gcd_rec m u, Nat.gcd_comm]
      · walk_at "g"
        have hm : m = 0 := by omega
        subst hm
        rw [Nat.gcd_zero_right] at e
        rw [e]
        exact k
    · intro σ H Q Q' hm hq
      obtain ⟨v, h1, h2⟩ := hq
      obtain ⟨i, j, h3, h4, k', h5, h6⟩ := h2
      exact ⟨v, h1, i, j, h3, h4, k', h5, hm _ _ h6⟩
theorem ok_place_due (T : Txt P K mg a) : FnOk P w K mg base CX0 2 a.a_place_due a.d_place_due ["_law_row"] spDue := by
  refine T.F_place_due.ok sc_place_due (fun vs H Q E h => ?_) (fun cdv A outer s H vs Q E hr h => ?_)
  · obtain ⟨r, i, n, o, d, rfl, _⟩ := h
    rfl
  · obtain ⟨r, i, n, o, d, rfl, hr', hd, hd2, k⟩ := h
    refine ⟨_, (pss_cons (ps_set (i := 1) sc_place_due.nd rfl (Or.inl rfl) (pe_callS (ok_divisor T) (hr.mono (by decide)) rfl T.g_divisor T.F_divisor.kp T.b_divisor pass0S (pa_cons (pe_ix ix_tup (pv 0) pe_int (fun _ _ => rfl)) (pa_cons (pe_callS (ok_divisor T) (hr.mono (by decide)) rfl T.g_divisor T.F_divisor.kp T.b_divisor pass0S (pa_cons (pe_ix ix_tup (pv 0) pe_int (fun _ _ => rfl)) (pa_cons (pe_ix ix_tup (pv 0) pe_int (fun _ _ => rfl)) pa_nil))) pa_nil))))
      (pss_one (ps_ret (pe_tup (pa_cons (pe_op op_fdiv (pe_ix ix_tup (pv 0) pe_int (fun _ _ => rfl)) (pv 1)) (pa_cons (pe_op op_fdiv (pe_ix ix_tup (pv 0) pe_int (fun _ _ => rfl)) (pv 1)) (pa_cons (pe_op op_fdiv (pe_ix ix_tup (pv 0) pe_int (fun _ _ => rfl)) (pv 1)) (pa_cons (pe_op op_fdiv (pe_ix ix_tup (pv 0) pe_int (fun _ _ => rfl)) (pv 1)) pa_nil)))))))), ?_⟩
    walk_at "g"
    refine G.ixT hr' (rfl : atI _ 3 = some (.int d)) ?_
    walk_at "g"
    refine G.ixT hr' (rfl : atI _ 0 = some (.int i)) ?_
    walk_at "g"
    refine G.ixT hr' (rfl : atI _ 1 = some (.int n)) ?_
    walk_at "g"
    refine ⟨_, _, rfl, ?_⟩
    refine ⟨_, _, rfl, ?_⟩
    have eg : (Int.gcd d (Int.gcd i n : Nat) : Int) = gP i n d := rfl
    rw [eg]
    have h1 := gP_pos (i := i) (n := n) (d := d) (by omega)
    have h2 := gP_le (i := i) (n := n) (d := d) (by omega)
    walk_at "g"
    refine G.ixT hr' (rfl : atI _ 0 = some (.int i)) ?_
    walk_at "g"
    refine G.ixT hr' (rfl : atI _ 1 = some (.int n)) ?_
    walk_at "g"
    refine G.ixT hr' (rfl : atI _ 2 = some (.int o)) ?_
    walk_at "g"
    refine G.ixT hr' (rfl : atI _ 3 = some (.int d)) ?_
    walk_at "g"
    exact G.newT (by simp) fun q H2 _ s2 hq => by
      walk_at "g"
      exact k q H2 s2 hq
theorem ok_refused_divisor (T : Txt P K mg a) : FnOk P w K mg base CX0 7 a.a_refused_divisor a.d_refused_divisor ["_law_number", "_law_way"] spRefused := by
  refine T.F_refused_divisor.ok sc_refused_divisor (fun vs H Q E h => ?_) (fun cdv A outer s H vs Q E hr h => ?_)
  · obtain ⟨b, z, rfl, _⟩ := h
    rfl
  · obtain ⟨b, z, rfl, hb, k⟩ := h
    refine ⟨_, (pss_cons (ps_set (i := 2) sc_refused_divisor.nd rfl (Or.inl rfl) pe_non)
      (pss_cons (ps_try_as (i := 3)  rfl rfl sc_refused_divisor.nd rfl rfl ⟨rfl, by decide, Or.inl T.g_BadNumber⟩ takes0
      (fun W pn xe tk _ => (pss_one (ps_if (pt_cmpR op_eq (pv 1) pe_int (nomark _)) (pss_one (ps_set (i := 2) sc_refused_divisor.nd rfl (Or.inl rfl) (pe_makeS T.mk_Place (ok_Place_init T) (hr.mono (by decide)) rfl T.g_Place T.b_Place_init (fun σ => passAt tk σ) (pa_cons (pe_makeS T.mk_Straight (ok_Straight_init T) (hr.mono (by decide)) rfl T.g_Straight T.b_Straight_init pass0S (pa_cons pe_int (pa_cons pe_int (pa_cons pe_int pa_nil)))) (pa_cons (pv 0) pa_nil))))) (pss_one (ps_set (i := 2) sc_refused_divisor.nd rfl (Or.inl rfl) (pe_own T.o_Straight_floordiv (ok_Straight_floordiv T) (hr.mono (by decide)) T.b_Straight_floordiv (fun σ => passAt tk σ) (pe_makeS T.mk_Straight (ok_Straight_init T) (hr.mono (by decide)) rfl T.g_Straight T.b_Straight_init pass0S (pa_cons pe_int (pa_cons pe_int (pa_cons pe_int pa_nil)))) (pv 0)))))))
      (fun ea oe cls dd pn hz hf => (pss_one (ps_set (i := 2) sc_refused_divisor.nd rfl (Or.inl rfl) (pe_tup (pa_cons (pe_xf T.x_BadNumber (T.e_BadNumber.noF _ (by decide)) hz hf (pv 3)) (pa_cons (pe_xf T.x_BadNumber (T.e_BadNumber.noF _ (by decide)) hz hf (pv 3)) pa_nil)))))))
      (pss_one (ps_ret (pv 2))))), ?_⟩
    walk_at "g"
    refine G.ite (fun h1 => ?_) (fun h1 => ?_)
    · walk_at "g"
      refine mkS fun p dx H1 _ s1 hp => ?_
      walk_at "g"
      refine mkP (.inl ⟨p, rfl, dx, hp⟩) (by omega) (fun _ e H2 s2 he => ?_) (fun h => by omega)
      refine ⟨true, T.te_BadNumber, fun _ ea _ => ?_, fun z => Bool.noConfusion z⟩
      walk_at "g"
      refine G.newT (by simp) fun q H3 _ s3 hq => ?_
      walk_at "g"
      exact k q H3 ((s1.trans s2).trans s3) hq
    · walk_at "g"
      refine mkS fun p dx H1 _ s1 hp => ?_
      walk_at "g"
      refine ⟨p, dx, _, rfl, hp, .inr ⟨b, rfl⟩, p, 1, 2, 3, b, rfl, ⟨dx, hp⟩, by omega, fun _ e H2 s2 he => ?_, fun h => by omega⟩
      refine ⟨true, T.te_BadNumber, fun _ ea _ => ?_, fun z => Bool.noConfusion z⟩
      walk_at "g"
      refine G.newT (by simp) fun q H3 _ s3 hq => ?_
      walk_at "g"
      exact k q H3 ((s1.trans s2).trans s3) hq
def spMoved (a : Ad) : Sp := fun vs H Q _ => ∃ (p r pl : Addr) (m i n o d : Int), vs = [.ref p, .ref r, .ref pl] ∧ Pen H p m ∧ m ≤ 1000000000 ∧ H r = some (.tup [.int i, .int n, .int o, .int d]) ∧ (-18 ≤ i ∧ i ≤ 18) ∧ (-18 ≤ n ∧ n ≤ 18) ∧ (1 ≤ d ∧ d ≤ 24) ∧
  IsP a H pl (i / gP i n d) (n / gP i n d) (o / gP i n d) (d / gP i n d) ∧ ∀ H', G.Kp H H' → Pen H' p (m + 5000) → Q (.bl true) H'
theorem ediv_abs {x g B : Int} (hg : 0 < g) (h : -B ≤ x ∧ x ≤ B) (hB : 0 ≤ B) : -B ≤ x / g ∧ x / g ≤ B := by
  have h1 : x / g * g + x % g = x := Int.ediv_mul_add_emod x g
  have h2 := Int.emod_nonneg x (show g ≠ 0 by omega)
  have h3 := Int.emod_lt_of_pos x hg
  constructor
  · apply Int.le_ediv_of_mul_le hg
    have : -B * g ≤ -B * 1 := Int.mul_le_mul_of_nonpos_left (by omega) (by omega)
    omega
  · apply Int.le_of_lt_add_one
    apply Int.ediv_lt_of_lt_mul hg
    have : (B + 1) * 1 ≤ (B + 1) * g := Int.mul_le_mul_of_nonneg_left (by omega) (by omega)
    omega
theorem ok_moved_right (T : Txt P K mg a) : FnOk P w K mg base CX0 7 a.a_moved_right a.d_moved_right ["_law_pen_here", "_law_row", "_law_place"] (spMoved a) := by
  refine T.F_moved_right.ok sc_moved_right (fun vs H Q E h => ?_) (fun cdv A outer s H vs Q E hr h => ?_)
  · obtain ⟨p, r, pl, m, i, n, o, d, rfl, _⟩ := h
    rfl
  · obtain ⟨p, r, pl, m, i, n, o, d, rfl, pe, hm, hr', hi, hn, hd, ⟨dx, st, dy, hpl, hst⟩, k⟩ := h
    have hg := gP_pos (i := i) (n := n) (d := d) (by omega)
    have hgl := gP_le (i := i) (n := n) (d := d) (by omega)
    refine ⟨_, (pss_cons (ps_par (i := 3) (j := 4) (by rfl) sc_moved_right.nd rfl rfl (by decide) rfl rfl (pa_cons (pe_op op_sub (pe_callS (ok_draw T) (hr.mono (by decide)) rfl T.g_draw T.F_draw.kp T.b_draw pass0S (pa_cons (pv 0) (pa_cons pe_int pa_nil))) pe_int) (pa_cons (pe_callS (ok_between T) (hr.mono (by decide)) rfl T.g_between T.F_between.kp T.b_between pass0S (pa_cons (pv 0) (pa_cons (pe_un un_neg pe_int) (pa_cons pe_int pa_nil)))) pa_nil)) (by rfl))
      (pss_cons (ps_asg (pv 1) (pg_tup (by rfl) (pgs_cons (pg_name (i := 5) sc_moved_right.nd rfl (Or.inl rfl)) (pgs_cons (pg_name (i := 6) sc_moved_right.nd rfl (Or.inl rfl)) (pgs_cons (pg_name (i := 7) sc_moved_right.nd rfl (Or.inl rfl)) (pgs_cons (pg_name (i := 8) sc_moved_right.nd rfl (Or.inl rfl)) pgs_nil))))))
      (pss_cons (ps_par3 (i := 9) (j := 10) (l := 11) (by rfl) sc_moved_right.nd rfl rfl rfl (by decide) (by decide) (by decide) rfl rfl rfl (pa_cons (pe_methZ (pv 2) T.cl_Place T.m_Place_replaced (ok_Place_replaced T) (hr.mono (by decide)) T.b_Place_replaced pass0S (pa_cons (pv 3) (pa_cons (pv 4) pa_nil))) (pa_cons (pe_callS (ok_far T) (hr.mono (by decide)) rfl T.g_far T.F_far.kp T.b_far pass0S (pa_cons (pv 0) pa_nil)) (pa_cons (pe_callS (ok_far T) (hr.mono (by decide)) rfl T.g_far T.F_far.kp T.b_far pass0S (pa_cons (pv 0) pa_nil)) pa_nil))) (by rfl))
      (pss_cons (ps_if (pt_cmpR op_ne (pe_callI (pv 9) T.c_Place_call (ok_Place_call T) (hr.mono (by decide)) T.b_Place_call pass0S (pa_cons (pv 10) (pa_cons (pv 11) pa_nil))) (pe_op op_fdiv (pe_op op_add (pe_op op_add (pe_op op_mul (pv 5) (pe_op op_add (pe_op op_mul (pv 3) (pv 10)) (pv 4))) (pe_op op_mul (pv 6) (pv 11))) (pv 7)) (pv 8)) (nomark _)) (pss_one (ps_ret pe_bl)) pss_nil)
      (pss_one (ps_ret (pe_cmpR (op_eqO T.at_Place_eq T.i_Place_eq (ok_Place_eq T) (hr.mono (by decide)) T.b_Place_eq pass0S) (pv 9) (pe_makeS T.mk_Place (ok_Place_init T) (hr.mono (by decide)) rfl T.g_Place T.b_Place_init passLS (pa_cons (pe_makeS T.mk_Straight (ok_Straight_init T) (hr.mono (by decide)) rfl T.g_Straight T.b_Straight_init pass0S (pa_cons (pe_op op_mul (pv 5) (pv 3)) (pa_cons (pv 6) (pa_cons (pe_op op_add (pe_op op_mul (pv 5) (pv 4)) (pv 7)) pa_nil)))) (pa_cons (pv 8) pa_nil))) (nomark _)))))))), ?_⟩
    walk_at "g"
    refine ⟨p, 7, m, rfl, pe, by omega, by omega, by omega, fun f H1 k1 pe1 h1 h2 => ?_⟩
    walk_at "g"
    refine ⟨p, -99, 99, m + 1, rfl, pe1, by omega, by omega, by omega, fun sh H2 k2 pe2 h3 h4 => ?_⟩
    walk_at "g"
    refine ⟨pl, dx, _, rfl, by walk_at "hp", fPlace_no_replaced .., ?_⟩
    walk_at "g"
    have hd1 : 1 ≤ d / gP i n d := Int.le_ediv_of_mul_le hg (by omega)
    have hd2 : d / gP i n d ≤ d := (ediv_abs (B := d) hg (by omega) (by omega)).2
    refine ⟨pl, _, _, _, _, f - 2, sh, rfl, ⟨dx, st, dy, by walk_at "hp", by walk_at "hp"⟩, ⟨by omega, by omega⟩, ⟨by omega, by omega⟩, hd1, by omega, fun q H3 s3 hq => ?_⟩
    walk_at "g"
    refine ⟨p, m + 3, rfl, (pe2.mono (by omega)).same s3, by omega, fun x H4 k4 pe4 h5 h6 => ?_⟩
    walk_at "g"
    refine ⟨p, m + 2003, rfl, pe4.mono (by omega), by omega, fun y H5 k5 pe5 h7 h8 => ?_⟩
    walk_at "g"
    obtain ⟨e0, e1, e2, e3, e4⟩ := least_rep (i := i) (n := n) (o := o) (d := d) (f := f - 2) (s := sh) hd.1
    rw [e1, e2, e3, e4] at hq
    obtain ⟨dq, sq, dsq, hq1, hq2⟩ := hq
    have hfi : -72 ≤ i * (f - 2) ∧ i * (f - 2) ≤ 72 := by
      have hf : f = 0 ∨ f = 1 ∨ f = 2 ∨ f = 3 ∨ f = 4 ∨ f = 5 ∨ f = 6 := by omega
      rcases hf with rfl | rfl | rfl | rfl | rfl | rfl | rfl <;> constructor <;> omega
    have hg2 := gP_pos (i := i * (f - 2)) (n := n) (d := d) hd.1
    have hg2l := gP_le (i := i * (f - 2)) (n := n) (d := d) hd.1
    have b1 := ediv_abs (B := 72) hg2 hfi (by omega)
    have b2 := ediv_abs (B := 18) hg2 hn (by omega)
    have b3 : 1 ≤ d / gP (i * (f - 2)) n d := Int.le_ediv_of_mul_le hg2 (by omega)
    have b4 : d / gP (i * (f - 2)) n d ≤ d := (ediv_abs (B := d) hg2 (by omega) (by omega)).2
    have hq15 : H5 q = some (.ins a.C_Place dq (fPlace (.ref sq) (.int (d / gP (i * (f - 2)) n d)))) := by walk_at "hp"
    have hq25 : H5 sq = some (.ins a.C_Straight dsq (fStraight (.int (i * (f - 2) / gP (i * (f - 2)) n d)) (.int (n / gP (i * (f - 2)) n d)) (.int ((i * sh + o) / gP (i * (f - 2)) n d)))) := by walk_at "hp"
    refine ⟨⟨dq, _, hq15⟩, q, _, _, _, _, x, y, rfl, ⟨dq, sq, dsq, hq15, hq25⟩, ⟨by omega, by omega⟩, ⟨by omega, by omega⟩, b3, by omega, ?_⟩
    rw [val_least hd.1]
    walk_at "g"
    refine G.iteNY ?_ ?_
    · rw [Int.mul_add, Int.mul_assoc]
      congr 1
      omega
    · walk_at "g"
      refine mkS fun z dz H6 _ s6 hz => ?_
      walk_at "g"
      refine mkP (.inl ⟨z, rfl, dz, hz⟩) (by omega) (fun h => by omega) fun _ z2 dz2 sz dsz H7 s7 hz2 hsz => ?_
      have hq17 := s7 _ _ (s6 _ _ hq15)
      have hq27 := s7 _ _ (s6 _ _ hq25)
      refine ⟨q, dq, _, _, rfl, hq17, ty_P T hz2, by simp [PySem.W.notFirst], q, _, _, _, _, .ref z2, rfl, ⟨dq, sq, dsq, hq17, hq27⟩, .inl ⟨z2, _, _, _, _, rfl, ⟨dz2, sz, dsz, hz2, hsz⟩, ?_⟩⟩
      rw [decide_eq_true ⟨rfl, rfl, rfl, rfl⟩]
      walk_at "g"
      exact k H7 ((((((k1.trans k2).then s3).trans k4).trans k5).then s6).then s7) (((pe5.mono (by omega)).same s6).same s7)
end
end Lw
local macro_rules | `(tactic| walk_at "hp") => `(tactic| first
  | assumption
  | exact L2.upd_same
  | (refine G.sget (by assumption) ?_; walk_at "hp")
  | (refine G.kget (by assumption) ?_ ?_; (· walk_at "hp"); (· intro _ h; cases h)))
local macro_rules | `(tactic| walk_at "s") => `(tactic| first
  | (with_reducible refine G.seq ?_)
  | (with_reducible refine G.nx ?_)
  | (with_reducible refine G.rt ?_)
  | (with_reducible refine G.next ?_)
  | (with_reducible refine G.asg ?_)
  | (with_reducible refine G.asgG ?_)
  | ((with_reducible refine' G.gtup ?h ?l ?q); (case h => walk_at "hp"); (case l => rfl))
  | (with_reducible refine G.gcons ?_)
  | (with_reducible refine G.gnil ?_)
  | (with_reducible refine G.gname ?_)
  | (with_reducible refine G.inst ?_)
  | (with_reducible refine G.refV ?_)
  | (with_reducible refine G.xf ?_)
  | ((with_reducible refine' G.xfV ?h ?l ?q); (case h => walk_at "hp"); (case l => walk_at "xk"))
  | (with_reducible refine G.ret ?_)
  | (with_reducible refine G.ifS ?_)
  | (with_reducible refine G.drop ?_)
  | ((with_reducible refine' G.var ?h ?q); (case h => rfl))
  | (with_reducible refine G.cst ?_)
  | (with_reducible refine G.op ?_)
  | (with_reducible refine G.un ?_)
  | (with_reducible refine G.I0 ?_)
  | (with_reducible refine G.U1 ?_)
  | ((with_reducible refine G.fdiv ?_ ?_ ?_); (· omega); (· omega))
  | ((with_reducible refine G.md ?_ ?_); (· omega))
  | ((with_reducible refine G.mulL ?_ ?_ ?_); (· omega); (· omega))
  | ((with_reducible refine G.mulR ?_ ?_ ?_); (· omega); (· omega))
  | (with_reducible refine G.pow18 ?_)
  | (with_reducible refine G.pow6 ?_)
  | (with_reducible refine G.pow30 ?_)
  | (with_reducible refine G.pow29 ?_)
  | (with_reducible refine G.pow3 ?_)
  | (with_reducible refine G.eqI ?_)
  | (with_reducible refine G.neI ?_)
  | ((with_reducible refine G.eq ?_ ?_); (· rfl))
  | ((with_reducible refine G.ne ?_ ?_); (· rfl))
  | (with_reducible refine G.isN ?_)
  | (with_reducible refine G.notN ?_)
  | (with_reducible refine G.test ?_)
  | (with_reducible refine G.tBv ?_)
  | (with_reducible refine G.bl ?_)
  | (with_reducible refine G.and ?_)
  | (with_reducible refine G.or ?_)
  | (with_reducible refine G.not ?_)
  | (with_reducible refine G.andV ?_)
  | (with_reducible refine G.orV ?_)
  | (with_reducible refine G.notV ?_)
  | (with_reducible refine G.ifE ?_)
  | (with_reducible refine G.nil ?_)
  | (with_reducible refine G.cons ?_)
  | (with_reducible refine G.tup ?_)
  | (with_reducible refine G.lst ?_)
  | (with_reducible refine G.fld ?_)
  | (with_reducible refine G.call ?_)
  | (with_reducible refine G.cb ?_)
  | (with_reducible refine G.make ?_)
  | (with_reducible refine G.dget ?_)
  | (with_reducible refine G.dput ?_)
  | (with_reducible refine G.fldS ?_)
  | (with_reducible refine G.abs ?_)
  | (with_reducible refine G.max2 ?_)
  | (with_reducible refine G.min2 ?_)
  | (with_reducible refine G.int1 ?_)
  | (with_reducible refine G.own ?_)
  | (with_reducible refine G.ownR ?_)
  | (with_reducible refine G.meth ?_)
  | (with_reducible refine G.par ?_)
  | (with_reducible refine G.par3 ?_)
  | (with_reducible refine G.parV ?_)
  | (with_reducible refine G.parV3 ?_)
  | (with_reducible refine G.forR ?_)
  | (with_reducible refine G.raiseE ?_)
  | (with_reducible refine G.iteT' ?_)
  | (with_reducible refine G.iteNT ?_)
  | (with_reducible refine G.iteNF ?_)
  | (with_reducible refine G.iteF' ?_)
  | ((with_reducible refine' G.dgetS ?h ?l ?q); (case h => walk_at "hp"); (case l => walk_at "dk"))
  | ((with_reducible refine' G.lenL ?h ?q); (case h => walk_at "hp"))
  | ((with_reducible refine' G.lenT ?h ?q); (case h => walk_at "hp"))
  | ((with_reducible refine' G.fldV ?h ?c ?n ?l ?q); (case h => walk_at "hp"); (case c => walk_at "cls"); (case n => walk_at "na"); (case l => walk_at "lk"))
  | ((with_reducible refine' G.fldSV ?h ?c ?n ?l ?q); (case h => walk_at "hp"); (case c => walk_at "cls"); (case n => walk_at "na"); (case l => walk_at "ln")))
local macro_rules | `(tactic| walk_at "g") => `(tactic| repeat (walk_at "s"))
namespace Lw
open PySem L2
local macro_rules | `(tactic| walk_at "cls") => `(tactic| first | exact Lw.Txt.cl_Straight (by assumption) | exact Lw.Txt.cl_Place (by assumption))
local macro_rules | `(tactic| walk_at "na") => `(tactic| first | exact Lw.Txt.na_Straight_i (by assumption) | exact Lw.Txt.na_Straight_n (by assumption) | exact Lw.Txt.na_Straight_one (by assumption) | exact Lw.Txt.na_Place_straight (by assumption) | exact Lw.Txt.na_Place_divisor (by assumption))
local macro_rules | `(tactic| walk_at "lk") => `(tactic| first | exact Lw.fStraight_i _ _ _ | exact Lw.fStraight_n _ _ _ | exact Lw.fStraight_one _ _ _ | exact Lw.fPlace_straight _ _ | exact Lw.fPlace_divisor _ _)
local macro_rules | `(tactic| walk_at "ln") => `(tactic| first | (show 0 < 1000; decide) | (show 1 < 1000; decide) | (show 2 < 1000; decide) | (show 3 < 1000; decide) | (show 4 < 1000; decide))
def spRight : Sp := fun vs H Q _ => ∃ (p : Addr) (m : Int), vs = [.ref p] ∧ Pen H p m ∧ m ≤ 900000000 ∧ ∀ H', G.Kp H H' → Pen H' p (m + 20000) → Q (.bl true) H'
theorem shaped4 (x y z u : Int) : SeqAt.shaped (.tuple [.int x, .int y, .int z, .int u]) = true := by rfl
theorem eqv4 (x y z u x' y' z' u' : Int) : PyData.eqv (.tuple [.int x, .int y, .int z, .int u]) (.tuple [.int x', .int y', .int z', .int u']) = decide (x = x' ∧ y = y' ∧ z = z' ∧ u = u') := by
  rw [Bool.eq_iff_iff]
  simp [PyData.eqv, PyData.eqvAll]
theorem dp4 {K : PySem.W.Frag} {H : Hp} {p : Addr} {x y z u : Int} (h : H p = some (.tup [.int x, .int y, .int z, .int u])) : Dp K H (.ref p) (.tuple [.int x, .int y, .int z, .int u]) := G.dpT h (G.dpInts [x, y, z, u])
section
variable {P : Program} {w : World} {K : PySem.W.Frag} {mg : Str → Option Value} {base : Heap} {a : Ad}
theorem ok_place_right (T : Txt P K mg a) : FnOk P w K mg base CX0 8 a.a_place_right a.d_place_right ["_law_pen_here"] spRight := by
  refine T.F_place_right.ok sc_place_right (fun vs H Q E h => ?_) (fun cdv A outer s H vs Q E hr h => ?_)
  · obtain ⟨p, m, rfl, _⟩ := h
    rfl
  · obtain ⟨p, m, rfl, pe, hm, k⟩ := h
    refine ⟨_, (pss_cons (ps_set (i := 1) sc_place_right.nd rfl (Or.inl rfl) (pe_op op_add pe_int (pe_callS (ok_draw T) (hr.mono (by decide)) rfl T.g_draw T.F_draw.kp T.b_draw pass0S (pa_cons (pv 0) (pa_cons pe_int pa_nil)))))
      (pss_cons (ps_par (i := 2) (j := 3) (by rfl) sc_place_right.nd rfl rfl (by decide) rfl rfl (pa_cons (pe_op op_mul (pv 1) (pe_op op_sub (pe_callS (ok_draw T) (hr.mono (by decide)) rfl T.g_draw T.F_draw.kp T.b_draw pass0S (pa_cons (pv 0) (pa_cons pe_int pa_nil))) pe_int)) (pa_cons (pe_op op_mul (pv 1) (pe_op op_sub (pe_callS (ok_draw T) (hr.mono (by decide)) rfl T.g_draw T.F_draw.kp T.b_draw pass0S (pa_cons (pv 0) (pa_cons pe_int pa_nil))) pe_int)) pa_nil)) (by rfl))
      (pss_cons (ps_par (i := 4) (j := 5) (by rfl) sc_place_right.nd rfl rfl (by decide) rfl rfl (pa_cons (pe_callS (ok_between T) (hr.mono (by decide)) rfl T.g_between T.F_between.kp T.b_between pass0S (pa_cons (pv 0) (pa_cons (pe_un un_neg pe_int) (pa_cons pe_int pa_nil)))) (pa_cons (pe_op op_mul (pv 1) (pe_op op_add pe_int (pe_callS (ok_draw T) (hr.mono (by decide)) rfl T.g_draw T.F_draw.kp T.b_draw pass0S (pa_cons (pv 0) (pa_cons pe_int pa_nil))))) pa_nil)) (by rfl))
      (Evl.pss_cut (ps_if (pt_cmpR op_eq (pe_callS (ok_draw T) (hr.mono (by decide)) rfl T.g_draw T.F_draw.kp T.b_draw pass0S (pa_cons (pv 0) (pa_cons pe_int pa_nil))) pe_int (nomark _)) (pss_one (ps_set (i := 4) sc_place_right.nd rfl (Or.inl rfl) (pe_op op_sub (pe_op op_add (pv 4) (pe_callS (ok_big T) (hr.mono (by decide)) rfl T.g_big T.F_big.kp T.b_big pass0S (pa_cons (pv 0) (pa_cons (pe_op op_pow pe_int pe_int) pa_nil)))) (pe_op op_mul pe_int (pe_op op_pow pe_int pe_int))))) pss_nil)
      (pss_cons (ps_par3 (i := 6) (j := 7) (l := 8) (by rfl) sc_place_right.nd rfl rfl rfl (by decide) (by decide) (by decide) rfl rfl rfl (pa_cons (pe_makeS T.mk_Place (ok_Place_init T) (hr.mono (by decide)) rfl T.g_Place T.b_Place_init passLS (pa_cons (pe_makeS T.mk_Straight (ok_Straight_init T) (hr.mono (by decide)) rfl T.g_Straight T.b_Straight_init pass0S (pa_cons (pv 2) (pa_cons (pv 3) (pa_cons (pv 4) pa_nil)))) (pa_cons (pv 5) pa_nil))) (pa_cons (pe_callS (ok_far T) (hr.mono (by decide)) rfl T.g_far T.F_far.kp T.b_far pass0S (pa_cons (pv 0) pa_nil)) (pa_cons (pe_callS (ok_far T) (hr.mono (by decide)) rfl T.g_far T.F_far.kp T.b_far pass0S (pa_cons (pv 0) pa_nil)) pa_nil))) (by rfl))
      (pss_cons (ps_set (i := 9) sc_place_right.nd rfl (Or.inl rfl) (pe_callS (ok_place_due T) (hr.mono (by decide)) rfl T.g_place_due T.F_place_due.kp T.b_place_due pass0S (pa_cons (pe_tup (pa_cons (pv 2) (pa_cons (pv 3) (pa_cons (pv 4) (pa_cons (pv 5) pa_nil))))) pa_nil)))
      (pss_cons (ps_if (pt_cmpR (op_neD hr.units) (pe_tup (pa_cons (pe_fld (pe_fld (pv 6) rfl) rfl) (pa_cons (pe_fld (pe_fld (pv 6) rfl) rfl) (pa_cons (pe_fld (pe_fld (pv 6) rfl) rfl) (pa_cons (pe_fld (pv 6) rfl) pa_nil))))) (pv 9) (nomark _)) (pss_one (ps_ret pe_bl)) pss_nil)
      (pss_cons (ps_set (i := 10) sc_place_right.nd rfl (Or.inl rfl) (pe_callI (pv 6) T.c_Place_call (ok_Place_call T) (hr.mono (by decide)) T.b_Place_call pass0S (pa_cons (pv 7) (pa_cons (pv 8) pa_nil))))
      (pss_cons (ps_if (PW.pt (pw_or (pt_cmpR op_ne (pv 10) (pe_op op_fdiv (pe_op op_add (pe_op op_add (pe_op op_mul (pv 2) (pv 7)) (pe_op op_mul (pv 3) (pv 8))) (pv 4)) (pv 5)) (nomark _)) (pw_or1 (pt_not (pt_val (pe_callS (ok_integer T) (hr.mono (by decide)) rfl T.g_integer T.F_integer.kp T.b_integer pass0S (pa_cons (pv 10) pa_nil))))))) (pss_one (ps_ret pe_bl)) pss_nil)
      (pss_cons (ps_par (i := 11) (j := 12) (by rfl) sc_place_right.nd rfl rfl (by decide) rfl rfl (pa_cons (pe_makeS T.mk_Straight (ok_Straight_init T) (hr.mono (by decide)) rfl T.g_Straight T.b_Straight_init pass0S (pa_cons pe_int (pa_cons pe_int (pa_cons pe_int pa_nil)))) (pa_cons (pe_makeS T.mk_Straight (ok_Straight_init T) (hr.mono (by decide)) rfl T.g_Straight T.b_Straight_init pass0S (pa_cons pe_int (pa_cons pe_int (pa_cons pe_int pa_nil)))) pa_nil)) (by rfl))
      (pss_cons (ps_set (i := 13) sc_place_right.nd rfl (Or.inl rfl) (pe_own T.o_Straight_floordiv (ok_Straight_floordiv T) (hr.mono (by decide)) T.b_Straight_floordiv passLS (pe_own T.o_Straight_add (ok_Straight_add T) (hr.mono (by decide)) T.b_Straight_add pass0S (pe_own T.o_Straight_add (ok_Straight_add T) (hr.mono (by decide)) T.b_Straight_add pass0S (pe_ownR declines_mul T.o_Straight_rmul (ok_Straight_rmul T) (hr.mono (by decide)) T.b_Straight_rmul pass0S (pv 2) (pv 11)) (pe_own T.o_Straight_mul (ok_Straight_mul T) (hr.mono (by decide)) T.b_Straight_mul pass0S (pv 12) (pv 3))) (pv 4)) (pv 5)))
      (pss_cons (ps_if (PW.pt (pw_or (pt_not (pt_cmpR (op_eqO T.at_Place_eq T.i_Place_eq (ok_Place_eq T) (hr.mono (by decide)) T.b_Place_eq pass0S) (pv 13) (pv 6) (nomark _))) (pw_or (pt_not (pt_val (pe_callB call_isi (by rfl) T.n_isinstance (by decide +kernel) (pa_cons (pv 13) (pa_cons (pe_glob (v := .ref a.C_Place) rfl T.g_Place rfl) pa_nil))))) (pw_or (pt_cmpR (op_eqO T.at_Place_eq T.i_Place_eq (ok_Place_eq T) (hr.mono (by decide)) T.b_Place_eq pass0S) (pv 6) (pe_fld (pv 6) rfl) (nomark _)) (pw_or1 (pt_cmpR (op_eqO T.at_Straight_eq T.i_Straight_eq (ok_Straight_eq T) (hr.mono (by decide)) T.b_Straight_eq pass0S) (pe_fld (pv 6) rfl) (pv 6) (nomark _))))))) (pss_one (ps_ret pe_bl)) pss_nil)
      (pss_cons (ps_set (i := 14) sc_place_right.nd rfl (Or.inl rfl) (pe_tup (pa_cons (pv 2) (pa_cons (pv 3) (pa_cons (pe_op op_sub (pe_op op_add (pv 4) (pe_callS (ok_draw T) (hr.mono (by decide)) rfl T.g_draw T.F_draw.kp T.b_draw pass0S (pa_cons (pv 0) (pa_cons (pe_op op_add (pe_op op_mul pe_int (pv 5)) pe_int) pa_nil)))) (pv 5)) (pa_cons (pv 5) pa_nil))))))
      (pss_cons (ps_if (pt_cmpR op_ne (pe_cmpR (op_eqO T.at_Place_eq T.i_Place_eq (ok_Place_eq T) (hr.mono (by decide)) T.b_Place_eq pass0S) (pe_makeS T.mk_Place (ok_Place_init T) (hr.mono (by decide)) rfl T.g_Place T.b_Place_init passLS (pa_cons (pe_makeS T.mk_Straight (ok_Straight_init T) (hr.mono (by decide)) rfl T.g_Straight T.b_Straight_init pass0S (pa_cons (pe_ix ix_tup (pv 14) pe_int (fun _ _ => rfl)) (pa_cons (pe_ix ix_tup (pv 14) pe_int (fun _ _ => rfl)) (pa_cons (pe_ix ix_tup (pv 14) pe_int (fun _ _ => rfl)) pa_nil)))) (pa_cons (pv 5) pa_nil))) (pv 6) (nomark _)) (pe_cmpR (op_eqD hr.units) (pe_callS (ok_place_due T) (hr.mono (by decide)) rfl T.g_place_due T.F_place_due.kp T.b_place_due pass0S (pa_cons (pv 14) pa_nil)) (pv 9) (nomark _)) (nomark _)) (pss_one (ps_ret pe_bl)) pss_nil)
      (pss_cons (ps_set (i := 15) sc_place_right.nd rfl (Or.inl rfl) (pe_makeS T.mk_Place (ok_Place_init T) (hr.mono (by decide)) rfl T.g_Place T.b_Place_init passLS (pa_cons (pv 4) (pa_cons (pv 5) pa_nil))))
      (pss_cons (ps_if (pt_cmpR (op_neD hr.units) (pe_tup (pa_cons (pe_fld (pe_fld (pv 15) rfl) rfl) (pa_cons (pe_fld (pe_fld (pv 15) rfl) rfl) (pa_cons (pe_fld (pe_fld (pv 15) rfl) rfl) (pa_cons (pe_fld (pv 15) rfl) pa_nil))))) (pe_tup (pa_cons pe_int (pa_cons pe_int (pa_cons (pe_op op_fdiv (pv 4) (pv 5)) (pa_cons pe_int pa_nil))))) (nomark _)) (pss_one (ps_ret pe_bl)) pss_nil)
      (pss_cons (ps_if (PW.pt (pw_or (pt_cmpR (op_eqO T.at_Place_eq T.i_Place_eq (ok_Place_eq T) (hr.mono (by decide)) T.b_Place_eq pass0S) (pv 15) (pe_op op_fdiv (pv 4) (pv 5)) (nomark _)) (pw_or1 (pt_cmpR (op_eqO T.at_Place_eq T.i_Place_eq (ok_Place_eq T) (hr.mono (by decide)) T.b_Place_eq pass0S) (pv 15) pe_str (nomark _))))) (pss_one (ps_ret pe_bl)) pss_nil)
      (pss_one (ps_ret (pe_callS (ok_moved_right T) (hr.mono (by decide)) rfl T.g_moved_right T.F_moved_right.kp T.b_moved_right pass0S (pa_cons (pv 0) (pa_cons (pe_tup (pa_cons (pv 2) (pa_cons (pv 3) (pa_cons (pv 4) (pa_cons (pv 5) pa_nil))))) (pa_cons (pv 6) pa_nil))))))))))))))))))))))), ?_⟩
    walk_at "g"
    refine ⟨p, 6, m, rfl, pe, by omega, by omega, by omega, fun c0 H1 k1 pe1 c1 c2 => ?_⟩
    walk_at "g"
    refine ⟨p, 7, m + 1, rfl, pe1, by omega, by omega, by omega, fun r1 H2 k2 pe2 c3 c4 => ?_⟩
    walk_at "g"
    refine ⟨p, 7, m + 2, rfl, pe2.mono (by omega), by omega, by omega, by omega, fun r2 H3 k3 pe3 c5 c6 => ?_⟩
    walk_at "g"
    refine ⟨p, -60, 60, m + 3, rfl, pe3.mono (by omega), by omega, by omega, by omega, fun o0 H4 k4 pe4 c7 c8 => ?_⟩
    walk_at "g"
    refine ⟨p, 4, m + 5, rfl, pe4.mono (by omega), by omega, by omega, by omega, fun r3 H5 k5 pe5 c9 c10 => ?_⟩
    walk_at "g"
    refine G.cut (fun σ' H' => ∃ o : Int, σ' = [some (.ref p), some (.int (1 + c0)), some (.int ((1 + c0) * (r1 - 3))), some (.int ((1 + c0) * (r2 - 3))), some (.int o), some (.int ((1 + c0) * (1 + r3))), none, none, none, none, none, none, none, none, none, none] ∧ G.Kp H H' ∧ Pen H' p (m + 1007)) ?_ ?_
    · walk_at "g"
      refine ⟨p, 4, m + 6, rfl, pe5.mono (by omega), by omega, by omega, by omega, fun r4 H6 k6 pe6 c11 c12 => ?_⟩
      have K6 : G.Kp H H6 := ((((k1.trans k2).trans k3).trans k4).trans k5).trans k6
      walk_at "g"
      refine G.ite (fun _ => ?_) (fun _ => ?_)
      · walk_at "g"
        refine ⟨p, _, m + 7, rfl, pe6.mono (by omega), by omega, by omega, by decide +kernel, by decide +kernel, fun r5 H7 k7 pe7 _ _ => ?_⟩
        walk_at "g"
        exact ⟨_, rfl, K6.trans k7, pe7.mono (by omega)⟩
      · walk_at "g"
        exact ⟨_, rfl, K6, pe6.mono (by omega)⟩
    clear pe pe1 pe2 pe3 pe4 pe5 k1 k2 k3 k4 k5
    rintro σ' H6 ⟨o, rfl, K6, pe6⟩
    have hA : -18 ≤ (1 + c0) * (r1 - 3) ∧ (1 + c0) * (r1 - 3) ≤ 18 := by
      have hc : c0 = 0 ∨ c0 = 1 ∨ c0 = 2 ∨ c0 = 3 ∨ c0 = 4 ∨ c0 = 5 := by omega
      rcases hc with rfl | rfl | rfl | rfl | rfl | rfl <;> constructor <;> omega
    have hB : -18 ≤ (1 + c0) * (r2 - 3) ∧ (1 + c0) * (r2 - 3) ≤ 18 := by
      have hc : c0 = 0 ∨ c0 = 1 ∨ c0 = 2 ∨ c0 = 3 ∨ c0 = 4 ∨ c0 = 5 := by omega
      rcases hc with rfl | rfl | rfl | rfl | rfl | rfl <;> constructor <;> omega
    have hD : 1 ≤ (1 + c0) * (1 + r3) ∧ (1 + c0) * (1 + r3) ≤ 24 := by
      have hc : c0 = 0 ∨ c0 = 1 ∨ c0 = 2 ∨ c0 = 3 ∨ c0 = 4 ∨ c0 = 5 := by omega
      rcases hc with rfl | rfl | rfl | rfl | rfl | rfl <;> constructor <;> omega
    generalize (1 + c0) * (r1 - 3) = i at *
    generalize (1 + c0) * (r2 - 3) = n at *
    generalize (1 + c0) * (1 + r3) = d at *
    generalize (1 + c0) = cm at *
    clear c1 c2 c3 c4 c5 c6 c7 c8 c9 c10
    have hg := gP_pos (i := i) (n := n) (d := d) hD.1
    have hgl := gP_le (i := i) (n := n) (d := d) hD.1
    have b1 := ediv_abs (B := 18) hg hA (by omega)
    have b2 := ediv_abs (B := 18) hg hB (by omega)
    have b3 : 1 ≤ d / gP i n d := Int.le_ediv_of_mul_le hg (by omega)
    have b4 : d / gP i n d ≤ d := (ediv_abs (B := d) hg (by omega) (by omega)).2
    walk_at "g"
    refine mkS fun s1 d1 H7 _ s7 hs1 => ?_
    walk_at "g"
    refine mkP (.inl ⟨s1, rfl, d1, hs1⟩) (by omega) (fun h => by omega) fun _ pl dpl st dst H8 s8 hpl hst => ?_
    walk_at "g"
    refine ⟨p, m + 1007, rfl, (pe6.same s7).same s8, by omega, fun x H9 k9 pe9 x0 x1 => ?_⟩
    walk_at "g"
    refine ⟨p, m + 3007, rfl, pe9.mono (by omega), by omega, fun y H10 k10 pe10 y0 y1 => ?_⟩
    walk_at "g"
    refine G.newT (by simp) fun t1 H11 _ s11 ht1 => ?_
    walk_at "g"
    refine ⟨t1, i, n, o, d, rfl, ht1, hD.1, by omega, fun lt H12 s12 hlt => ?_⟩
    have K12 : G.Kp H H12 := ((((((K6.then s7).then s8).trans k9).trans k10).then s11).then s12)
    have pe12 : Pen H12 p (m + 5007) := ((pe10.mono (by omega)).same s11).same s12
    have hpl12 : H12 pl = some (.ins a.C_Place dpl (fPlace (.ref st) (.int (d / gP i n d)))) := by walk_at "hp"
    have hst12 : H12 st = some (.ins a.C_Straight dst (fStraight (.int (i / gP i n d)) (.int (n / gP i n d)) (.int (o / gP i n d)))) := by walk_at "hp"
    clear pe6 pe9 pe10 s7 s8 k9 k10 s11 s12 ht1 hpl hst hs1 K6
    walk_at "g"
    refine G.newT (by simp) fun t2 H13 _ s13 ht2 => ?_
    walk_at "g"
    refine G.neD (k := true) (dp4 ht2) (dp4 (by walk_at "hp")) (shaped4 ..) (shaped4 ..) (by rw [eqv4]; simp) ?_
    walk_at "g"
    have hpl13 := s13 _ _ hpl12
    have hst13 := s13 _ _ hst12
    refine ⟨⟨dpl, _, hpl13⟩, pl, _, _, _, _, x, y, rfl, ⟨dpl, st, dst, hpl13, hst13⟩, ⟨by omega, by omega⟩, ⟨by omega, by omega⟩, b3, by omega, ?_⟩
    rw [val_least hD.1]
    walk_at "g"
    refine G.iteNY rfl ?_
    walk_at "g"
    refine ⟨_, rfl, ?_⟩
    walk_at "g"
    refine mkS fun ci dci H14 _ s14 hci => ?_
    walk_at "g"
    refine mkS fun si dsi H15 _ s15 hsi => ?_
    walk_at "g"
    refine ⟨ci, dci, _, i, rfl, by walk_at "hp", rfl, ci, 1, 0, 0, i, rfl, ⟨dci, by walk_at "hp"⟩, ⟨by omega, by omega⟩, fun z1 H16 s16 ⟨dz1, hz1⟩ => ?_⟩
    walk_at "g"
    refine ⟨si, dsi, _, rfl, by walk_at "hp", .inr ⟨n, rfl⟩, si, 0, 1, 0, n, rfl, ⟨dsi, by walk_at "hp"⟩, ⟨by omega, by omega⟩, fun z2 H17 s17 ⟨dz2, hz2⟩ => ?_⟩
    have hz1' := s17 _ _ hz1
    refine ⟨z1, dz1, _, rfl, hz1', .inl ⟨z2, dz2, _, rfl, hz2⟩, z1, i * 1, i * 0, i * 0, .ref z2, n * 0, n * 1, n * 0, rfl, ⟨dz1, hz1'⟩, .inl ⟨z2, rfl, dz2, hz2⟩, fun z3 H18 s18 ⟨dz3, hz3⟩ => ?_⟩
    walk_at "g"
    refine ⟨z3, dz3, _, rfl, hz3, .inr ⟨o, rfl⟩, z3, i * 1 + n * 0, i * 0 + n * 1, i * 0 + n * 0, .int o, 0, 0, o, rfl, ⟨dz3, hz3⟩, .inr ⟨rfl, rfl, rfl⟩, fun z4 H19 s19 ⟨dz4, hz4⟩ => ?_⟩
    walk_at "g"
    have e1 : i * 1 + n * 0 + 0 = i := by omega
    have e2 : i * 0 + n * 1 + 0 = n := by omega
    have e3 : i * 0 + n * 0 + o = o := by omega
    rw [e1, e2, e3] at hz4
    refine ⟨z4, dz4, _, rfl, hz4, .inr ⟨d, rfl⟩, z4, i, n, o, d, rfl, ⟨dz4, hz4⟩, by omega, fun h => by omega, fun _ ot H20 s20 ⟨dot, sot, dsot, hot, hsot⟩ => ?_⟩
    walk_at "g"
    have K20 : G.Kp H H20 := K12.trans (G.Kp.of (((((((s13.trans s14).trans s15).trans s16).trans s17).trans s18).trans s19).trans s20))
    have S20 : Same H12 H20 := ((((((s13.trans s14).trans s15).trans s16).trans s17).trans s18).trans s19).trans s20
    have pe20 : Pen H20 p (m + 5007) := pe12.same S20
    have hpl20 := S20 _ _ hpl12
    have hst20 := S20 _ _ hst12
    have hlt20 : H20 lt = some (.tup [.int (i / gP i n d), .int (n / gP i n d), .int (o / gP i n d), .int (d / gP i n d)]) := S20 _ _ hlt
    clear pe12 hz1 hz2 hz3 hz4 hz1' hci hsi s13 s14 s15 s16 s17 s18 s19 s20 hpl13 hst13 ht2 S20 hpl12 hst12 hlt K12
    refine ⟨ot, dot, _, _, rfl, hot, ty_P T hpl20, by simp [PySem.W.notFirst], ot, _, _, _, _, .ref pl, rfl, ⟨dot, sot, dsot, hot, hsot⟩, .inl ⟨pl, _, _, _, _, rfl, ⟨dpl, st, dst, hpl20, hst20⟩, ?_⟩⟩
    rw [decide_eq_true ⟨rfl, rfl, rfl, rfl⟩]
    walk_at "g"
    refine ⟨_, _, _, _, true, rfl, .own _, ty_P T hot, T.ki_P_P, ?_⟩
    walk_at "g"
    refine ⟨pl, dpl, _, _, rfl, hpl20, ty_S T hst20, T.nf_P_S, pl, _, _, _, _, .ref st, rfl, ⟨dpl, st, dst, hpl20, hst20⟩, .inr ⟨⟨_, ty_S T hst20, T.ki_S_P⟩, ?_⟩⟩
    walk_at "g"
    refine ⟨st, dst, _, _, rfl, hst20, ty_P T hpl20, T.nf_S_P, st, _, _, _, .ref pl, rfl, ⟨dst, hst20⟩, .inr ⟨⟨_, ty_P T hpl20, T.ki_P_S⟩, ?_⟩⟩
    walk_at "g"
    refine ⟨p, 2 * d + 1, m + 5007, rfl, pe20, by omega, by omega, by omega, fun r6 H21 k21 pe21 r60 r61 => ?_⟩
    walk_at "g"
    refine G.newT (by simp) fun nr H22 _ s22 hnr => ?_
    walk_at "g"
    refine G.ixT hnr (rfl : atI _ 0 = some (.int i)) ?_
    walk_at "g"
    refine G.ixT hnr (rfl : atI _ 1 = some (.int n)) ?_
    walk_at "g"
    refine G.ixT hnr (rfl : atI _ 2 = some (.int (o + r6 - d))) ?_
    walk_at "g"
    refine mkS fun s2 d2 H23 _ s23 hs2 => ?_
    walk_at "g"
    refine mkP (.inl ⟨s2, rfl, d2, hs2⟩) (by omega) (fun h => by omega) fun _ pn dpn sn dsn H24 s24 hpn hsn => ?_
    walk_at "g"
    have hpl24 : H24 pl = some (.ins a.C_Place dpl (fPlace (.ref st) (.int (d / gP i n d)))) := by walk_at "hp"
    have hst24 : H24 st = some (.ins a.C_Straight dst (fStraight (.int (i / gP i n d)) (.int (n / gP i n d)) (.int (o / gP i n d)))) := by walk_at "hp"
    refine ⟨pn, dpn, _, _, rfl, hpn, ty_P T hpl24, by simp [PySem.W.notFirst], pn, _, _, _, _, .ref pl, rfl, ⟨dpn, sn, dsn, hpn, hsn⟩, .inl ⟨pl, _, _, _, _, rfl, ⟨dpl, st, dst, hpl24, hst24⟩, ?_⟩⟩
    walk_at "g"
    refine ⟨nr, i, n, o + r6 - d, d, rfl, by walk_at "hp", hD.1, by omega, fun nl H25 s25 hnl => ?_⟩
    walk_at "g"
    refine G.eqD (dp4 hnl) (dp4 (by walk_at "hp")) (shaped4 ..) (shaped4 ..) (eqv4 ..) ?_
    walk_at "g"
    refine G.iteNY rfl ?_
    walk_at "g"
    refine mkP (i := 0) (n := 0) (o := o) (.inr ⟨rfl, rfl, rfl⟩) (by omega) (fun h => by omega) fun _ wh dwh sw dsw H26 s26 hwh hsw => ?_
    rw [gP_zero hD.1, Int.zero_ediv] at hsw
    rw [gP_zero hD.1, Int.ediv_self (by omega)] at hwh
    walk_at "g"
    refine G.newT (by simp) fun t3 H27 _ s27 ht3 => ?_
    walk_at "g"
    refine G.newT (by simp) fun t4 H28 _ s28 ht4 => ?_
    refine G.neD (k := true) (dp4 (by walk_at "hp")) (dp4 ht4) (shaped4 ..) (shaped4 ..) (by rw [eqv4]; simp) ?_
    walk_at "g"
    have hwh28 : H28 wh = some (.ins a.C_Place dwh (fPlace (.ref sw) (.int 1))) := by walk_at "hp"
    have hsw28 : H28 sw = some (.ins a.C_Straight dsw (fStraight (.int 0) (.int 0) (.int (o / d)))) := by walk_at "hp"
    refine ⟨wh, dwh, _, _, rfl, hwh28, .base (.int _), T.nf_P_int, wh, _, _, _, _, .int (o / d), rfl, ⟨dwh, sw, dsw, hwh28, hsw28⟩, .inr ⟨⟨_, .base (.int _), T.ki_int_P⟩, ?_⟩⟩
    walk_at "g"
    refine ⟨wh, dwh, _, _, rfl, hwh28, .base (.str _), T.nf_P_str, wh, _, _, _, _, .str "place", rfl, ⟨dwh, sw, dsw, hwh28, hsw28⟩, .inr ⟨⟨_, .base (.str _), T.ki_str_P⟩, ?_⟩⟩
    walk_at "g"
    refine G.newT (by simp) fun t5 H29 _ s29 ht5 => ?_
    walk_at "g"
    refine ⟨p, t5, pl, m + 5008, i, n, o, d, rfl, ((((((((pe21.mono (by omega)).same s22).same s23).same s24).same s25).same s26).same s27).same s28).same s29, by omega, ht5, hA, hB, hD, ⟨dpl, st, dst, by walk_at "hp", by walk_at "hp"⟩, fun H30 k30 pe30 => ?_⟩
    walk_at "g"
    exact k H30 (((((((((K20.trans k21).then s22).then s23).then s24).then s25).then s26).then s27).then s28).then s29 |>.trans k30) (pe30.mono (by omega))
def spLaw (K : PySem.W.Frag) : Sp := fun vs H Q _ => ∃ (s : Addr) (ns : List Int), vs = [.ref s] ∧ SqL K H s (ns.map V.int) ∧ ∀ H', Q (.bl true) H'
theorem shaped2 (y : Int) : SeqAt.shaped (.tuple [.str "divisor", .int y]) = true := by kernel_rfl
theorem ok_law (T : Txt P K mg a) : FnOk P w K mg base CX0 9 a.a_law a.d_law ["_law_script"] (spLaw K) := by
  refine T.F_law.ok sc_law (fun vs H Q E h => ?_) (fun cdv A outer s H vs Q E hr h => ?_)
  · obtain ⟨s, ns, rfl, _⟩ := h
    rfl
  · obtain ⟨sc, ns, rfl, hs, k⟩ := h
    refine ⟨_, (pss_cons (ps_set (i := 1) sc_law.nd rfl (Or.inl rfl) (pe_callS (ok_pen T) (hr.mono (by decide)) rfl T.g_pen T.F_pen.kp T.b_pen pass0S (pa_cons (pv 0) pa_nil)))
      (pss_cons (ps_for PassesOwn.never rfl (pi_range1 (by rfl) T.n_range (pa_cons (pe_op op_add pe_int (pe_callS (ok_draw T) (hr.mono (by decide)) rfl T.g_draw T.F_draw.kp T.b_draw pass0S (pa_cons (pv 1) (pa_cons pe_int pa_nil)))) pa_nil)) (pg_name (i := 2) sc_law.nd rfl (Or.inl rfl))
      (pss_one (ps_if (pt_not (pt_val (pe_callS (ok_place_right T) (hr.mono (by decide)) rfl T.g_place_right T.F_place_right.kp T.b_place_right pass0S (pa_cons (pv 1) pa_nil)))) (pss_one (ps_ret pe_bl)) pss_nil)))
      (pss_cons (ps_set (i := 3) sc_law.nd rfl (Or.inl rfl) (pe_un un_neg (pe_callS (ok_far T) (hr.mono (by decide)) rfl T.g_far T.F_far.kp T.b_far pass0S (pa_cons (pv 1) pa_nil))))
      (pss_one (ps_ret (pe_and (pe_cmpR (op_eqD hr.units) (pe_callS (ok_refused_divisor T) (hr.mono (by decide)) rfl T.g_refused_divisor T.F_refused_divisor.kp T.b_refused_divisor pass0S (pa_cons (pv 3) (pa_cons pe_int pa_nil))) (pe_tup (pa_cons pe_str (pa_cons (pv 3) pa_nil))) (nomark _)) (pe_one (pe_cmpR (op_eqD hr.units) (pe_callS (ok_refused_divisor T) (hr.mono (by decide)) rfl T.g_refused_divisor T.F_refused_divisor.kp T.b_refused_divisor pass0S (pa_cons (pv 3) (pa_cons pe_int pa_nil))) (pe_tup (pa_cons pe_str (pa_cons (pv 3) pa_nil))) (nomark _))))))))), ?_⟩
    walk_at "g"
    refine ⟨sc, ns, rfl, hs, fun p H1 s1 pe1 => ?_⟩
    walk_at "g"
    refine ⟨p, 4, 0, rfl, pe1, by omega, by omega, by omega, fun r H2 k2 pe2 r0 r1 => ?_⟩
    walk_at "g"
    refine G.forR1 (fun i σ H' => ∃ v : Option V, σ = [some (.ref sc), some (.ref p), v, none] ∧ Pen H' p (1 + 20000 * i)) (by omega) ⟨none, rfl, pe2.mono (by omega)⟩ ?_ ?_
    · rintro i σ H' hi ⟨v, rfl, pe3⟩
      walk_at "g"
      refine ⟨p, _, rfl, pe3, by omega, fun H4 k4 pe4 => ?_⟩
      walk_at "g"
      exact ⟨_, rfl, pe4.mono (by omega)⟩
    · rintro σ H' ⟨v, rfl, pe3⟩
      walk_at "g"
      refine ⟨p, _, rfl, pe3, by omega, fun b H4 k4 pe4 b0 b1 => ?_⟩
      walk_at "g"
      refine ⟨-b, 0, rfl, by omega, fun q H5 s5 hq => ?_⟩
      walk_at "g"
      refine G.newT (by simp) fun t1 H6 _ s6 ht1 => ?_
      refine G.eqD (k := true) (G.dpT (by walk_at "hp") (.cons (.str _) (.cons (.int _) .nil))) (G.dpT ht1 (.cons (.str _) (.cons (.int _) .nil))) (shaped2 ..) (shaped2 ..) (by simp [PyData.eqv, PyData.eqvAll]) ?_
      walk_at "g"
      refine ⟨-b, 1, rfl, by omega, fun q H7 s7 hq => ?_⟩
      walk_at "g"
      refine G.newT (by simp) fun t2 H8 _ s8 ht2 => ?_
      refine G.eqD (k := true) (G.dpT (by walk_at "hp") (.cons (.str _) (.cons (.int _) .nil))) (G.dpT ht2 (.cons (.str _) (.cons (.int _) .nil))) (shaped2 ..) (shaped2 ..) (by simp [PyData.eqv, PyData.eqvAll]) ?_
      walk_at "g"
      exact k _
end
end Lw
namespace Lw
open PySem L2
theorem sup_BadNumber : PySem.ErrX.SupBody ["what", "number"] (defBody s_BadNumber_init) := ⟨_, _, _, _, _, _, _, _, _, rfl, (.cons (.cons .nil)), fun _ => _, fun env => rfl⟩
theorem all_mk {w : World} {K : PySem.W.Frag} {h : Heap} {mg : Str → Option Value} {fa a_common_divisor a_Straight_init a_Straight_call a_Straight_eq a_Straight_add a_Straight_mul a_Straight_rmul a_Straight_floordiv a_Straight_replaced a_Place_init a_Place_call a_Place_eq a_Place_replaced a_straight_of a_pen a_draw a_big a_between a_far a_integer a_divisor a_place_due a_refused_divisor a_moved_right a_place_right a_law C_LoopError C_BadNumber a_BadNumber_init C_Straight C_Place : Addr} (X : K.In h) (G : h.Ns mainGlobals mg) (hfa : mg "law" = some (.ref fa))
    {od_common_divisor an_common_divisor : Option Addr} {sl_common_divisor : Array (Option Value)} {oc_common_divisor kV_common_divisor dc_common_divisor pm_common_divisor cd_common_divisor ct_common_divisor : Value}
    {od_Straight_init an_Straight_init : Option Addr} {sl_Straight_init : Array (Option Value)} {oc_Straight_init kV_Straight_init dc_Straight_init pm_Straight_init cd_Straight_init ct_Straight_init : Value}
    {od_Straight_call an_Straight_call : Option Addr} {sl_Straight_call : Array (Option Value)} {oc_Straight_call kV_Straight_call dc_Straight_call pm_Straight_call cd_Straight_call ct_Straight_call : Value}
    {od_Straight_eq an_Straight_eq : Option Addr} {sl_Straight_eq : Array (Option Value)} {oc_Straight_eq kV_Straight_eq dc_Straight_eq pm_Straight_eq cd_Straight_eq ct_Straight_eq : Value}
    {od_Straight_add an_Straight_add : Option Addr} {sl_Straight_add : Array (Option Value)} {oc_Straight_add kV_Straight_add dc_Straight_add pm_Straight_add cd_Straight_add ct_Straight_add : Value}
    {od_Straight_mul an_Straight_mul : Option Addr} {sl_Straight_mul : Array (Option Value)} {oc_Straight_mul kV_Straight_mul dc_Straight_mul pm_Straight_mul cd_Straight_mul ct_Straight_mul : Value}
    {od_Straight_rmul an_Straight_rmul : Option Addr} {sl_Straight_rmul : Array (Option Value)} {oc_Straight_rmul kV_Straight_rmul dc_Straight_rmul pm_Straight_rmul cd_Straight_rmul ct_Straight_rmul : Value}
    {od_Straight_floordiv an_Straight_floordiv : Option Addr} {sl_Straight_floordiv : Array (Option Value)} {oc_Straight_floordiv kV_Straight_floordiv dc_Straight_floordiv pm_Straight_floordiv cd_Straight_floordiv ct_Straight_floordiv : Value}
    {od_Straight_replaced an_Straight_replaced : Option Addr} {sl_Straight_replaced : Array (Option Value)} {oc_Straight_replaced kV_Straight_replaced dc_Straight_replaced pm_Straight_replaced cd_Straight_replaced ct_Straight_replaced : Value}
    {od_Place_init an_Place_init : Option Addr} {sl_Place_init : Array (Option Value)} {oc_Place_init kV_Place_init dc_Place_init pm_Place_init cd_Place_init ct_Place_init : Value}
    {od_Place_call an_Place_call : Option Addr} {sl_Place_call : Array (Option Value)} {oc_Place_call kV_Place_call dc_Place_call pm_Place_call cd_Place_call ct_Place_call : Value}
    {od_Place_eq an_Place_eq : Option Addr} {sl_Place_eq : Array (Option Value)} {oc_Place_eq kV_Place_eq dc_Place_eq pm_Place_eq cd_Place_eq ct_Place_eq : Value}
    {od_Place_replaced an_Place_replaced : Option Addr} {sl_Place_replaced : Array (Option Value)} {oc_Place_replaced kV_Place_replaced dc_Place_replaced pm_Place_replaced cd_Place_replaced ct_Place_replaced : Value}
    {od_straight_of an_straight_of : Option Addr} {sl_straight_of : Array (Option Value)} {oc_straight_of kV_straight_of dc_straight_of pm_straight_of cd_straight_of ct_straight_of : Value}
    {od_pen an_pen : Option Addr} {sl_pen : Array (Option Value)} {oc_pen kV_pen dc_pen pm_pen cd_pen ct_pen : Value}
    {od_draw an_draw : Option Addr} {sl_draw : Array (Option Value)} {oc_draw kV_draw dc_draw pm_draw cd_draw ct_draw : Value}
    {od_big an_big : Option Addr} {sl_big : Array (Option Value)} {oc_big kV_big dc_big pm_big cd_big ct_big : Value}
    {od_between an_between : Option Addr} {sl_between : Array (Option Value)} {oc_between kV_between dc_between pm_between cd_between ct_between : Value}
    {od_far an_far : Option Addr} {sl_far : Array (Option Value)} {oc_far kV_far dc_far pm_far cd_far ct_far : Value}
    {od_integer an_integer : Option Addr} {sl_integer : Array (Option Value)} {oc_integer kV_integer dc_integer pm_integer cd_integer ct_integer : Value}
    {od_divisor an_divisor : Option Addr} {sl_divisor : Array (Option Value)} {oc_divisor kV_divisor dc_divisor pm_divisor cd_divisor ct_divisor : Value}
    {od_place_due an_place_due : Option Addr} {sl_place_due : Array (Option Value)} {oc_place_due kV_place_due dc_place_due pm_place_due cd_place_due ct_place_due : Value}
    {od_refused_divisor an_refused_divisor : Option Addr} {sl_refused_divisor : Array (Option Value)} {oc_refused_divisor kV_refused_divisor dc_refused_divisor pm_refused_divisor cd_refused_divisor ct_refused_divisor : Value}
    {od_moved_right an_moved_right : Option Addr} {sl_moved_right : Array (Option Value)} {oc_moved_right kV_moved_right dc_moved_right pm_moved_right cd_moved_right ct_moved_right : Value}
    {od_place_right an_place_right : Option Addr} {sl_place_right : Array (Option Value)} {oc_place_right kV_place_right dc_place_right pm_place_right cd_place_right ct_place_right : Value}
    {od_law an_law : Option Addr} {sl_law : Array (Option Value)} {oc_law kV_law dc_law pm_law cd_law ct_law : Value}
    {nm_BadNumber q_BadNumber : Str} {N_BadNumber : Addr} {bs_BadNumber bm_BadNumber : List Value} {sn_BadNumber : List Str} {sub_BadNumber : List Value} {ab_BadNumber : Bool} {col_BadNumber : Option Bool} {dd_BadNumber : Option Addr} {k0_BadNumber k1_BadNumber k2_BadNumber k3_BadNumber k5_BadNumber : Option Value}
    {oc_BadNumber kV_BadNumber dc_BadNumber pm_BadNumber ct_BadNumber : Value} {od_BadNumber an_BadNumber : Option Addr} {sl_BadNumber : Array (Option Value)} {cc_BadNumber cda_BadNumber : Addr} {ccl_BadNumber cl_BadNumber : Value} {cdd_BadNumber cld_BadNumber : Option Addr} {ccs_BadNumber csl_BadNumber : Array (Option Value)} {vs_BadNumber : Array Value} {fl_BadNumber : Str} {tok_BadNumber : Tok}
    {rc_Straight_floordiv fo_Straight_floordiv ro_Straight_floordiv : Option Value}
    {rc_Straight_add fo_Straight_add ro_Straight_add : Option Value}
    {rc_Straight_mul fo_Straight_mul ro_Straight_mul : Option Value}
    (n_LoopError : PySem.W.nsIn K mainGlobals "LoopError" = some (some (.ref C_LoopError)))
    (n_BadNumber : PySem.W.nsIn K mainGlobals "BadNumber" = some (some (.ref C_BadNumber)))
    (n_Straight : PySem.W.nsIn K mainGlobals "Straight" = some (some (.ref C_Straight)))
    (n_Place : PySem.W.nsIn K mainGlobals "Place" = some (some (.ref C_Place)))
    (n_common_divisor : PySem.W.nsIn K mainGlobals "common_divisor" = some (some (.ref a_common_divisor)))
    (l_common_divisor : K.lookup a_common_divisor = some ⟨oc_common_divisor, od_common_divisor, .func (PySem.W.fnOf "common_divisor" "common_divisor" (defArgs s_common_divisor) (defBody s_common_divisor) (defScope s_common_divisor) .none kV_common_divisor dc_common_divisor pm_common_divisor an_common_divisor cd_common_divisor ct_common_divisor), sl_common_divisor⟩)
    (c_common_divisor : PySem.W.codeIn K cd_common_divisor "common_divisor" = true)
    (k_common_divisor : PySem.W.keepIn K (.ref a_common_divisor) = true)
    (n_Straight_init : PySem.W.findIn K (.ref C_Straight) "__init__" = some (some (.ref a_Straight_init)))
    (i_Straight_init : PySem.W.isFn K (.ref a_Straight_init) = true)
    (l_Straight_init : K.lookup a_Straight_init = some ⟨oc_Straight_init, od_Straight_init, .func (PySem.W.fnOf "__init__" "Straight.__init__" (defArgs s_Straight_init) (defBody s_Straight_init) (defScope s_Straight_init) .none kV_Straight_init dc_Straight_init pm_Straight_init an_Straight_init cd_Straight_init ct_Straight_init), sl_Straight_init⟩)
    (c_Straight_init : PySem.W.codeIn K cd_Straight_init "Straight.__init__" = true)
    (k_Straight_init : PySem.W.keepIn K (.ref a_Straight_init) = true)
    (n_Straight_call : PySem.W.findIn K (.ref C_Straight) "__call__" = some (some (.ref a_Straight_call)))
    (i_Straight_call : PySem.W.isFn K (.ref a_Straight_call) = true)
    (fi_Straight_call : PySem.W.fnIn K a_Straight_call = true)
    (l_Straight_call : K.lookup a_Straight_call = some ⟨oc_Straight_call, od_Straight_call, .func (PySem.W.fnOf "__call__" "Straight.__call__" (defArgs s_Straight_call) (defBody s_Straight_call) (defScope s_Straight_call) .none kV_Straight_call dc_Straight_call pm_Straight_call an_Straight_call cd_Straight_call ct_Straight_call), sl_Straight_call⟩)
    (c_Straight_call : PySem.W.codeIn K cd_Straight_call "Straight.__call__" = true)
    (k_Straight_call : PySem.W.keepIn K (.ref a_Straight_call) = true)
    (n_Straight_eq : PySem.W.findIn K (.ref C_Straight) "__eq__" = some (some (.ref a_Straight_eq)))
    (i_Straight_eq : PySem.W.isFn K (.ref a_Straight_eq) = true)
    (l_Straight_eq : K.lookup a_Straight_eq = some ⟨oc_Straight_eq, od_Straight_eq, .func (PySem.W.fnOf "__eq__" "Straight.__eq__" (defArgs s_Straight_eq) (defBody s_Straight_eq) (defScope s_Straight_eq) .none kV_Straight_eq dc_Straight_eq pm_Straight_eq an_Straight_eq cd_Straight_eq ct_Straight_eq), sl_Straight_eq⟩)
    (c_Straight_eq : PySem.W.codeIn K cd_Straight_eq "Straight.__eq__" = true)
    (k_Straight_eq : PySem.W.keepIn K (.ref a_Straight_eq) = true)
    (n_Straight_add : PySem.W.findIn K (.ref C_Straight) "__add__" = some (some (.ref a_Straight_add)))
    (i_Straight_add : PySem.W.isFn K (.ref a_Straight_add) = true)
    (l_Straight_add : K.lookup a_Straight_add = some ⟨oc_Straight_add, od_Straight_add, .func (PySem.W.fnOf "__add__" "Straight.__add__" (defArgs s_Straight_add) (defBody s_Straight_add) (defScope s_Straight_add) .none kV_Straight_add dc_Straight_add pm_Straight_add an_Straight_add cd_Straight_add ct_Straight_add), sl_Straight_add⟩)
    (c_Straight_add : PySem.W.codeIn K cd_Straight_add "Straight.__add__" = true)
    (k_Straight_add : PySem.W.keepIn K (.ref a_Straight_add) = true)
    (n_Straight_mul : PySem.W.findIn K (.ref C_Straight) "__mul__" = some (some (.ref a_Straight_mul)))
    (i_Straight_mul : PySem.W.isFn K (.ref a_Straight_mul) = true)
    (l_Straight_mul : K.lookup a_Straight_mul = some ⟨oc_Straight_mul, od_Straight_mul, .func (PySem.W.fnOf "__mul__" "Straight.__mul__" (defArgs s_Straight_mul) (defBody s_Straight_mul) (defScope s_Straight_mul) .none kV_Straight_mul dc_Straight_mul pm_Straight_mul an_Straight_mul cd_Straight_mul ct_Straight_mul), sl_Straight_mul⟩)
    (c_Straight_mul : PySem.W.codeIn K cd_Straight_mul "Straight.__mul__" = true)
    (k_Straight_mul : PySem.W.keepIn K (.ref a_Straight_mul) = true)
    (n_Straight_rmul : PySem.W.findIn K (.ref C_Straight) "__rmul__" = some (some (.ref a_Straight_rmul)))
    (i_Straight_rmul : PySem.W.isFn K (.ref a_Straight_rmul) = true)
    (l_Straight_rmul : K.lookup a_Straight_rmul = some ⟨oc_Straight_rmul, od_Straight_rmul, .func (PySem.W.fnOf "__rmul__" "Straight.__rmul__" (defArgs s_Straight_rmul) (defBody s_Straight_rmul) (defScope s_Straight_rmul) .none kV_Straight_rmul dc_Straight_rmul pm_Straight_rmul an_Straight_rmul cd_Straight_rmul ct_Straight_rmul), sl_Straight_rmul⟩)
    (c_Straight_rmul : PySem.W.codeIn K cd_Straight_rmul "Straight.__rmul__" = true)
    (k_Straight_rmul : PySem.W.keepIn K (.ref a_Straight_rmul) = true)
    (n_Straight_floordiv : PySem.W.findIn K (.ref C_Straight) "__floordiv__" = some (some (.ref a_Straight_floordiv)))
    (i_Straight_floordiv : PySem.W.isFn K (.ref a_Straight_floordiv) = true)
    (l_Straight_floordiv : K.lookup a_Straight_floordiv = some ⟨oc_Straight_floordiv, od_Straight_floordiv, .func (PySem.W.fnOf "__floordiv__" "Straight.__floordiv__" (defArgs s_Straight_floordiv) (defBody s_Straight_floordiv) (defScope s_Straight_floordiv) .none kV_Straight_floordiv dc_Straight_floordiv pm_Straight_floordiv an_Straight_floordiv cd_Straight_floordiv ct_Straight_floordiv), sl_Straight_floordiv⟩)
    (c_Straight_floordiv : PySem.W.codeIn K cd_Straight_floordiv "Straight.__floordiv__" = true)
    (k_Straight_floordiv : PySem.W.keepIn K (.ref a_Straight_floordiv) = true)
    (n_Straight_replaced : PySem.W.findIn K (.ref C_Straight) "replaced" = some (some (.ref a_Straight_replaced)))
    (i_Straight_replaced : PySem.W.isFn K (.ref a_Straight_replaced) = true)
    (l_Straight_replaced : K.lookup a_Straight_replaced = some ⟨oc_Straight_replaced, od_Straight_replaced, .func (PySem.W.fnOf "replaced" "Straight.replaced" (defArgs s_Straight_replaced) (defBody s_Straight_replaced) (defScope s_Straight_replaced) .none kV_Straight_replaced dc_Straight_replaced pm_Straight_replaced an_Straight_replaced cd_Straight_replaced ct_Straight_replaced), sl_Straight_replaced⟩)
    (c_Straight_replaced : PySem.W.codeIn K cd_Straight_replaced "Straight.replaced" = true)
    (k_Straight_replaced : PySem.W.keepIn K (.ref a_Straight_replaced) = true)
    (n_Place_init : PySem.W.findIn K (.ref C_Place) "__init__" = some (some (.ref a_Place_init)))
    (i_Place_init : PySem.W.isFn K (.ref a_Place_init) = true)
    (l_Place_init : K.lookup a_Place_init = some ⟨oc_Place_init, od_Place_init, .func (PySem.W.fnOf "__init__" "Place.__init__" (defArgs s_Place_init) (defBody s_Place_init) (defScope s_Place_init) .none kV_Place_init dc_Place_init pm_Place_init an_Place_init cd_Place_init ct_Place_init), sl_Place_init⟩)
    (c_Place_init : PySem.W.codeIn K cd_Place_init "Place.__init__" = true)
    (k_Place_init : PySem.W.keepIn K (.ref a_Place_init) = true)
    (n_Place_call : PySem.W.findIn K (.ref C_Place) "__call__" = some (some (.ref a_Place_call)))
    (i_Place_call : PySem.W.isFn K (.ref a_Place_call) = true)
    (fi_Place_call : PySem.W.fnIn K a_Place_call = true)
    (l_Place_call : K.lookup a_Place_call = some ⟨oc_Place_call, od_Place_call, .func (PySem.W.fnOf "__call__" "Place.__call__" (defArgs s_Place_call) (defBody s_Place_call) (defScope s_Place_call) .none kV_Place_call dc_Place_call pm_Place_call an_Place_call cd_Place_call ct_Place_call), sl_Place_call⟩)
    (c_Place_call : PySem.W.codeIn K cd_Place_call "Place.__call__" = true)
    (k_Place_call : PySem.W.keepIn K (.ref a_Place_call) = true)
    (n_Place_eq : PySem.W.findIn K (.ref C_Place) "__eq__" = some (some (.ref a_Place_eq)))
    (i_Place_eq : PySem.W.isFn K (.ref a_Place_eq) = true)
    (l_Place_eq : K.lookup a_Place_eq = some ⟨oc_Place_eq, od_Place_eq, .func (PySem.W.fnOf "__eq__" "Place.__eq__" (defArgs s_Place_eq) (defBody s_Place_eq) (defScope s_Place_eq) .none kV_Place_eq dc_Place_eq pm_Place_eq an_Place_eq cd_Place_eq ct_Place_eq), sl_Place_eq⟩)
    (c_Place_eq : PySem.W.codeIn K cd_Place_eq "Place.__eq__" = true)
    (k_Place_eq : PySem.W.keepIn K (.ref a_Place_eq) = true)
    (n_Place_replaced : PySem.W.findIn K (.ref C_Place) "replaced" = some (some (.ref a_Place_replaced)))
    (i_Place_replaced : PySem.W.isFn K (.ref a_Place_replaced) = true)
    (l_Place_replaced : K.lookup a_Place_replaced = some ⟨oc_Place_replaced, od_Place_replaced, .func (PySem.W.fnOf "replaced" "Place.replaced" (defArgs s_Place_replaced) (defBody s_Place_replaced) (defScope s_Place_replaced) .none kV_Place_replaced dc_Place_replaced pm_Place_replaced an_Place_replaced cd_Place_replaced ct_Place_replaced), sl_Place_replaced⟩)
    (c_Place_replaced : PySem.W.codeIn K cd_Place_replaced "Place.replaced" = true)
    (k_Place_replaced : PySem.W.keepIn K (.ref a_Place_replaced) = true)
    (n_straight_of : PySem.W.nsIn K mainGlobals "straight_of" = some (some (.ref a_straight_of)))
    (l_straight_of : K.lookup a_straight_of = some ⟨oc_straight_of, od_straight_of, .func (PySem.W.fnOf "straight_of" "straight_of" (defArgs s_straight_of) (defBody s_straight_of) (defScope s_straight_of) .none kV_straight_of dc_straight_of pm_straight_of an_straight_of cd_straight_of ct_straight_of), sl_straight_of⟩)
    (c_straight_of : PySem.W.codeIn K cd_straight_of "straight_of" = true)
    (k_straight_of : PySem.W.keepIn K (.ref a_straight_of) = true)
    (n_pen : PySem.W.nsIn K mainGlobals "_law_pen" = some (some (.ref a_pen)))
    (l_pen : K.lookup a_pen = some ⟨oc_pen, od_pen, .func (PySem.W.fnOf "_law_pen" "_law_pen" (defArgs s_pen) (defBody s_pen) (defScope s_pen) .none kV_pen dc_pen pm_pen an_pen cd_pen ct_pen), sl_pen⟩)
    (c_pen : PySem.W.codeIn K cd_pen "_law_pen" = true)
    (k_pen : PySem.W.keepIn K (.ref a_pen) = true)
    (n_draw : PySem.W.nsIn K mainGlobals "_law_draw" = some (some (.ref a_draw)))
    (l_draw : K.lookup a_draw = some ⟨oc_draw, od_draw, .func (PySem.W.fnOf "_law_draw" "_law_draw" (defArgs s_draw) (defBody s_draw) (defScope s_draw) .none kV_draw dc_draw pm_draw an_draw cd_draw ct_draw), sl_draw⟩)
    (c_draw : PySem.W.codeIn K cd_draw "_law_draw" = true)
    (k_draw : PySem.W.keepIn K (.ref a_draw) = true)
    (n_big : PySem.W.nsIn K mainGlobals "_law_big" = some (some (.ref a_big)))
    (l_big : K.lookup a_big = some ⟨oc_big, od_big, .func (PySem.W.fnOf "_law_big" "_law_big" (defArgs s_big) (defBody s_big) (defScope s_big) .none kV_big dc_big pm_big an_big cd_big ct_big), sl_big⟩)
    (c_big : PySem.W.codeIn K cd_big "_law_big" = true)
    (k_big : PySem.W.keepIn K (.ref a_big) = true)
    (n_between : PySem.W.nsIn K mainGlobals "_law_between" = some (some (.ref a_between)))
    (l_between : K.lookup a_between = some ⟨oc_between, od_between, .func (PySem.W.fnOf "_law_between" "_law_between" (defArgs s_between) (defBody s_between) (defScope s_between) .none kV_between dc_between pm_between an_between cd_between ct_between), sl_between⟩)
    (c_between : PySem.W.codeIn K cd_between "_law_between" = true)
    (k_between : PySem.W.keepIn K (.ref a_between) = true)
    (n_far : PySem.W.nsIn K mainGlobals "_law_far" = some (some (.ref a_far)))
    (l_far : K.lookup a_far = some ⟨oc_far, od_far, .func (PySem.W.fnOf "_law_far" "_law_far" (defArgs s_far) (defBody s_far) (defScope s_far) .none kV_far dc_far pm_far an_far cd_far ct_far), sl_far⟩)
    (c_far : PySem.W.codeIn K cd_far "_law_far" = true)
    (k_far : PySem.W.keepIn K (.ref a_far) = true)
    (n_integer : PySem.W.nsIn K mainGlobals "_law_integer" = some (some (.ref a_integer)))
    (l_integer : K.lookup a_integer = some ⟨oc_integer, od_integer, .func (PySem.W.fnOf "_law_integer" "_law_integer" (defArgs s_integer) (defBody s_integer) (defScope s_integer) .none kV_integer dc_integer pm_integer an_integer cd_integer ct_integer), sl_integer⟩)
    (c_integer : PySem.W.codeIn K cd_integer "_law_integer" = true)
    (k_integer : PySem.W.keepIn K (.ref a_integer) = true)
    (n_divisor : PySem.W.nsIn K mainGlobals "_law_divisor" = some (some (.ref a_divisor)))
    (l_divisor : K.lookup a_divisor = some ⟨oc_divisor, od_divisor, .func (PySem.W.fnOf "_law_divisor" "_law_divisor" (defArgs s_divisor) (defBody s_divisor) (defScope s_divisor) .none kV_divisor dc_divisor pm_divisor an_divisor cd_divisor ct_divisor), sl_divisor⟩)
    (c_divisor : PySem.W.codeIn K cd_divisor "_law_divisor" = true)
    (k_divisor : PySem.W.keepIn K (.ref a_divisor) = true)
    (n_place_due : PySem.W.nsIn K mainGlobals "_law_place_due" = some (some (.ref a_place_due)))
    (l_place_due : K.lookup a_place_due = some ⟨oc_place_due, od_place_due, .func (PySem.W.fnOf "_law_place_due" "_law_place_due" (defArgs s_place_due) (defBody s_place_due) (defScope s_place_due) .none kV_place_due dc_place_due pm_place_due an_place_due cd_place_due ct_place_due), sl_place_due⟩)
    (c_place_due : PySem.W.codeIn K cd_place_due "_law_place_due" = true)
    (k_place_due : PySem.W.keepIn K (.ref a_place_due) = true)
    (n_refused_divisor : PySem.W.nsIn K mainGlobals "_law_refused_divisor" = some (some (.ref a_refused_divisor)))
    (l_refused_divisor : K.lookup a_refused_divisor = some ⟨oc_refused_divisor, od_refused_divisor, .func (PySem.W.fnOf "_law_refused_divisor" "_law_refused_divisor" (defArgs s_refused_divisor) (defBody s_refused_divisor) (defScope s_refused_divisor) .none kV_refused_divisor dc_refused_divisor pm_refused_divisor an_refused_divisor cd_refused_divisor ct_refused_divisor), sl_refused_divisor⟩)
    (c_refused_divisor : PySem.W.codeIn K cd_refused_divisor "_law_refused_divisor" = true)
    (k_refused_divisor : PySem.W.keepIn K (.ref a_refused_divisor) = true)
    (n_moved_right : PySem.W.nsIn K mainGlobals "_law_moved_right" = some (some (.ref a_moved_right)))
    (l_moved_right : K.lookup a_moved_right = some ⟨oc_moved_right, od_moved_right, .func (PySem.W.fnOf "_law_moved_right" "_law_moved_right" (defArgs s_moved_right) (defBody s_moved_right) (defScope s_moved_right) .none kV_moved_right dc_moved_right pm_moved_right an_moved_right cd_moved_right ct_moved_right), sl_moved_right⟩)
    (c_moved_right : PySem.W.codeIn K cd_moved_right "_law_moved_right" = true)
    (k_moved_right : PySem.W.keepIn K (.ref a_moved_right) = true)
    (n_place_right : PySem.W.nsIn K mainGlobals "_law_place_right" = some (some (.ref a_place_right)))
    (l_place_right : K.lookup a_place_right = some ⟨oc_place_right, od_place_right, .func (PySem.W.fnOf "_law_place_right" "_law_place_right" (defArgs s_place_right) (defBody s_place_right) (defScope s_place_right) .none kV_place_right dc_place_right pm_place_right an_place_right cd_place_right ct_place_right), sl_place_right⟩)
    (c_place_right : PySem.W.codeIn K cd_place_right "_law_place_right" = true)
    (k_place_right : PySem.W.keepIn K (.ref a_place_right) = true)
    (n_law : PySem.W.nsIn K mainGlobals "law" = some (some (.ref a_law)))
    (l_law : K.lookup a_law = some ⟨oc_law, od_law, .func (PySem.W.fnOf "law" "law" (defArgs s_law) (defBody s_law) (defScope s_law) .none kV_law dc_law pm_law an_law cd_law ct_law), sl_law⟩)
    (c_law : PySem.W.codeIn K cd_law "law" = true)
    (k_law : PySem.W.keepIn K (.ref a_law) = true)
    (xl_BadNumber : K.lookup C_BadNumber = some (excClassObj nm_BadNumber q_BadNumber C_BadNumber N_BadNumber bs_BadNumber bm_BadNumber true sn_BadNumber sub_BadNumber ab_BadNumber col_BadNumber dd_BadNumber k0_BadNumber k1_BadNumber k2_BadNumber k3_BadNumber k5_BadNumber "ValueError.__new__"))
    (rb_BadNumber : PySem.HandSPX.refsVE bm_BadNumber = true)
    (sa_BadNumber : PySem.W.findIn K (.ref C_BadNumber) "__setattr__" = some (some (.builtin "object.__setattr__")))
    (nf_BadNumber_what : PySem.W.findIn K (.ref C_BadNumber) "what" = some none)
    (nf_BadNumber_number : PySem.W.findIn K (.ref C_BadNumber) "number" = some none)
    (n_BadNumber_init : PySem.W.findIn K (.ref C_BadNumber) "__init__" = some (some (.ref a_BadNumber_init)))
    (tf_BadNumber : PySem.W.typeIn K (.ref a_BadNumber_init) = some (.type "function"))
    (kc_BadNumber : PySem.W.keepIn K (.ref C_BadNumber) = true)
    (ex_BadNumber : PySem.W.subIn K (.ref C_BadNumber) (.type "BaseException") = some true)
    (ve_BadNumber : PySem.W.subIn K (.ref C_BadNumber) (.type "ValueError") = some true)
    (ty_BadNumber : PySem.W.typeIn K (.ref C_BadNumber) = some (.type "type"))
    (sp_BadNumber : PySem.W.ks_superIn K C_BadNumber C_BadNumber "__init__" = some (some (.builtin "ValueError.__init__")))
    (mr_BadNumber : PySem.W.mroIn K C_BadNumber (.ref C_BadNumber) = some true)
    (l_BadNumber : K.lookup a_BadNumber_init = some ⟨oc_BadNumber, od_BadNumber, .func (PySem.W.ksFn "__init__" "BadNumber.__init__" (defArgs s_BadNumber_init) (defBody s_BadNumber_init) (defScope s_BadNumber_init) .none kV_BadNumber dc_BadNumber pm_BadNumber an_BadNumber (.ref cda_BadNumber) ct_BadNumber cc_BadNumber), sl_BadNumber⟩)
    (c_BadNumber : PySem.W.codeIn K (.ref cda_BadNumber) "BadNumber.__init__" = true)
    (hc_BadNumber : K.lookup cda_BadNumber = some ⟨ccl_BadNumber, cdd_BadNumber, .fields vs_BadNumber, ccs_BadNumber⟩)
    (hv_BadNumber : vs_BadNumber[2]? = some (.str fl_BadNumber tok_BadNumber))
    (hf_BadNumber : ((PySem.Challenge.pw_loopsize_k20_places_in_least_form.main.file : Str) == fl_BadNumber) = true)
    (hl_BadNumber : K.lookup cc_BadNumber = some ⟨cl_BadNumber, cld_BadNumber, .cell (some (.ref C_BadNumber)), csl_BadNumber⟩)
    (ga_BadNumber : PySem.W.findIn K (.ref C_BadNumber) "__getattribute__" = some (some (.builtin "BaseException.__getattribute__")))
    (gg_BadNumber : PySem.W.findIn K (.ref C_BadNumber) "__getattr__" = some none)
    (hd_BadNumber : PySem.W.hasDictIn K C_BadNumber = true)
    (te_BadNumber : PySem.W.exmOne K (.ref C_BadNumber) (.ref C_BadNumber) = some true)
    (pg_Straight : PySem.W.plainGet K C_Straight Str.empty = true)
    (hd_Straight : PySem.W.hasDictIn K C_Straight = true)
    (po_Straight : PySem.W.plainOver K C_Straight = true)
    (sa_Straight : PySem.W.findIn K (.ref C_Straight) "__setattr__" = some (some (.builtin "object.__setattr__")))
    (mk_Straight : PySem.W.makesIn K C_Straight = true)
    (kc_Straight : PySem.W.keepIn K (.ref C_Straight) = true)
    (na_Straight_i : PySem.W.findIn K (.ref C_Straight) "i" = some none)
    (na_Straight_n : PySem.W.findIn K (.ref C_Straight) "n" = some none)
    (na_Straight_one : PySem.W.findIn K (.ref C_Straight) "one" = some none)
    (ca_Straight : PySem.W.findIn K (.ref C_Straight) "__class__" = some (some (.builtin "object.__class__")))
    (mo_Straight : PySem.W.mroIn K C_Straight (.type "object") = some true)
    (pg_Place : PySem.W.plainGet K C_Place Str.empty = true)
    (hd_Place : PySem.W.hasDictIn K C_Place = true)
    (po_Place : PySem.W.plainOver K C_Place = true)
    (sa_Place : PySem.W.findIn K (.ref C_Place) "__setattr__" = some (some (.builtin "object.__setattr__")))
    (mk_Place : PySem.W.makesIn K C_Place = true)
    (kc_Place : PySem.W.keepIn K (.ref C_Place) = true)
    (na_Place_straight : PySem.W.findIn K (.ref C_Place) "straight" = some none)
    (na_Place_divisor : PySem.W.findIn K (.ref C_Place) "divisor" = some none)
    (ca_Place : PySem.W.findIn K (.ref C_Place) "__class__" = some (some (.builtin "object.__class__")))
    (mo_Place : PySem.W.mroIn K C_Place (.type "object") = some true)
    (cg : PySem.W.specialIn K (.builtin "object.__class__") "__get__" = some (some (.builtin "getset_descriptor.__get__")))
    (ct : PySem.W.takesIn K (.builtin "object.__class__") = some true)
    (sup_ : PySem.W.nsIn K mainGlobals "super" = some none)
    (opq_ : PySem.W.nsIn K cStatics "thirdparty.any" = some none)
    (sf_Straight : PySem.W.selfFirst K C_Straight = true)
    (os_Straight : PySem.W.subIn K (.type "int") (.ref C_Straight) = some false)
    (ob_Straight : PySem.W.subIn K (.ref C_Straight) (.type "int") = some false)
    (or_Straight_floordiv : PySem.W.findIn K (.ref C_Straight) (dunderR (Operator.FloorDiv).info.2) = some rc_Straight_floordiv)
    (og_Straight_floordiv : (rc_Straight_floordiv = none ∨ ∃ g : Addr, rc_Straight_floordiv = some (.ref g)))
    (of_Straight_floordiv : PySem.W.findIn K (.type "int") (PySem.dunder (Operator.FloorDiv).info.2) = some fo_Straight_floordiv)
    (oi_Straight_floordiv : PySem.W.findIn K (.type "int") (dunderR (Operator.FloorDiv).info.2) = some ro_Straight_floordiv)
    (or_Straight_add : PySem.W.findIn K (.ref C_Straight) (dunderR (Operator.Add).info.2) = some rc_Straight_add)
    (og_Straight_add : (rc_Straight_add = none ∨ ∃ g : Addr, rc_Straight_add = some (.ref g)))
    (of_Straight_add : PySem.W.findIn K (.type "int") (PySem.dunder (Operator.Add).info.2) = some fo_Straight_add)
    (oi_Straight_add : PySem.W.findIn K (.type "int") (dunderR (Operator.Add).info.2) = some ro_Straight_add)
    (or_Straight_mul : PySem.W.findIn K (.ref C_Straight) (dunderR (Operator.Mult).info.2) = some rc_Straight_mul)
    (og_Straight_mul : (rc_Straight_mul = none ∨ ∃ g : Addr, rc_Straight_mul = some (.ref g)))
    (of_Straight_mul : PySem.W.findIn K (.type "int") (PySem.dunder (Operator.Mult).info.2) = some fo_Straight_mul)
    (oi_Straight_mul : PySem.W.findIn K (.type "int") (dunderR (Operator.Mult).info.2) = some ro_Straight_mul)
    (ki_S_S : PySem.W.kitOne K (.ref C_Straight) (.ref C_Straight) = some true)
    (ki_P_S : PySem.W.kitOne K (.ref C_Place) (.ref C_Straight) = some false)
    (ki_int_S : PySem.W.kitOne K (.type "int") (.ref C_Straight) = some false)
    (ki_P_P : PySem.W.kitOne K (.ref C_Place) (.ref C_Place) = some true)
    (ki_S_P : PySem.W.kitOne K (.ref C_Straight) (.ref C_Place) = some false)
    (ki_int_P : PySem.W.kitOne K (.type "int") (.ref C_Place) = some false)
    (ki_str_P : PySem.W.kitOne K (.type "str") (.ref C_Place) = some false)
    (nf_S_P : PySem.W.notFirst K C_Straight (.ref C_Place) = true)
    (nf_P_S : PySem.W.notFirst K C_Place (.ref C_Straight) = true)
    (nf_P_int : PySem.W.notFirst K C_Place (.type "int") = true)
    (nf_P_str : PySem.W.notFirst K C_Place (.type "str") = true)
    (n_abs : PySem.W.nsIn K mainGlobals "abs" = some none)
    (n_bool : PySem.W.nsIn K mainGlobals "bool" = some none)
    (n_int : PySem.W.nsIn K mainGlobals "int" = some none)
    (n_isinstance : PySem.W.nsIn K mainGlobals "isinstance" = some none)
    (n_len : PySem.W.nsIn K mainGlobals "len" = some none)
    (n_list : PySem.W.nsIn K mainGlobals "list" = some none)
    (n_max : PySem.W.nsIn K mainGlobals "max" = some none)
    (n_min : PySem.W.nsIn K mainGlobals "min" = some none)
    (n_range : PySem.W.nsIn K mainGlobals "range" = some none)
    (n_str : PySem.W.nsIn K mainGlobals "str" = some none)
    : ∃ fd : FuncData, (∀ (s : Shared) (v : Value), BindsTo s fd ⟨[v], []⟩ [("_law_script", v)]) ∧ ∀ base : Heap, K.In base → base.Ns mainGlobals mg → FnOk PySem.Challenge.pw_loopsize_k20_places_in_least_form w K mg base CX0 9 fa fd ["_law_script"] (spLaw K) := by
  have e : fa = a_law := by
    have e := hfa.symm.trans (PySem.W.mg_of X G n_law)
    cases e
    rfl
  rw [e]
  have T : Txt PySem.Challenge.pw_loopsize_k20_places_in_least_form K mg { a_common_divisor := a_common_divisor, d_common_divisor := PySem.W.fnOf "common_divisor" "common_divisor" (defArgs s_common_divisor) (defBody s_common_divisor) (defScope s_common_divisor) .none kV_common_divisor dc_common_divisor pm_common_divisor an_common_divisor cd_common_divisor ct_common_divisor, a_Straight_init := a_Straight_init, d_Straight_init := PySem.W.fnOf "__init__" "Straight.__init__" (defArgs s_Straight_init) (defBody s_Straight_init) (defScope s_Straight_init) .none kV_Straight_init dc_Straight_init pm_Straight_init an_Straight_init cd_Straight_init ct_Straight_init, a_Straight_call := a_Straight_call, d_Straight_call := PySem.W.fnOf "__call__" "Straight.__call__" (defArgs s_Straight_call) (defBody s_Straight_call) (defScope s_Straight_call) .none kV_Straight_call dc_Straight_call pm_Straight_call an_Straight_call cd_Straight_call ct_Straight_call, a_Straight_eq := a_Straight_eq, d_Straight_eq := PySem.W.fnOf "__eq__" "Straight.__eq__" (defArgs s_Straight_eq) (defBody s_Straight_eq) (defScope s_Straight_eq) .none kV_Straight_eq dc_Straight_eq pm_Straight_eq an_Straight_eq cd_Straight_eq ct_Straight_eq, a_Straight_add := a_Straight_add, d_Straight_add := PySem.W.fnOf "__add__" "Straight.__add__" (defArgs s_Straight_add) (defBody s_Straight_add) (defScope s_Straight_add) .none kV_Straight_add dc_Straight_add pm_Straight_add an_Straight_add cd_Straight_add ct_Straight_add, a_Straight_mul := a_Straight_mul, d_Straight_mul := PySem.W.fnOf "__mul__" "Straight.__mul__" (defArgs s_Straight_mul) (defBody s_Straight_mul) (defScope s_Straight_mul) .none kV_Straight_mul dc_Straight_mul pm_Straight_mul an_Straight_mul cd_Straight_mul ct_Straight_mul, a_Straight_rmul := a_Straight_rmul, d_Straight_rmul := PySem.W.fnOf "__rmul__" "Straight.__rmul__" (defArgs s_Straight_rmul) (defBody s_Straight_rmul) (defScope s_Straight_rmul) .none kV_Straight_rmul dc_Straight_rmul pm_Straight_rmul an_Straight_rmul cd_Straight_rmul ct_Straight_rmul, a_Straight_floordiv := a_Straight_floordiv, d_Straight_floordiv := PySem.W.fnOf "__floordiv__" "Straight.__floordiv__" (defArgs s_Straight_floordiv) (defBody s_Straight_floordiv) (defScope s_Straight_floordiv) .none kV_Straight_floordiv dc_Straight_floordiv pm_Straight_floordiv an_Straight_floordiv cd_Straight_floordiv ct_Straight_floordiv, a_Straight_replaced := a_Straight_replaced, d_Straight_replaced := PySem.W.fnOf "replaced" "Straight.replaced" (defArgs s_Straight_replaced) (defBody s_Straight_replaced) (defScope s_Straight_replaced) .none kV_Straight_replaced dc_Straight_replaced pm_Straight_replaced an_Straight_replaced cd_Straight_replaced ct_Straight_replaced, a_Place_init := a_Place_init, d_Place_init := PySem.W.fnOf "__init__" "Place.__init__" (defArgs s_Place_init) (defBody s_Place_init) (defScope s_Place_init) .none kV_Place_init dc_Place_init pm_Place_init an_Place_init cd_Place_init ct_Place_init, a_Place_call := a_Place_call, d_Place_call := PySem.W.fnOf "__call__" "Place.__call__" (defArgs s_Place_call) (defBody s_Place_call) (defScope s_Place_call) .none kV_Place_call dc_Place_call pm_Place_call an_Place_call cd_Place_call ct_Place_call, a_Place_eq := a_Place_eq, d_Place_eq := PySem.W.fnOf "__eq__" "Place.__eq__" (defArgs s_Place_eq) (defBody s_Place_eq) (defScope s_Place_eq) .none kV_Place_eq dc_Place_eq pm_Place_eq an_Place_eq cd_Place_eq ct_Place_eq, a_Place_replaced := a_Place_replaced, d_Place_replaced := PySem.W.fnOf "replaced" "Place.replaced" (defArgs s_Place_replaced) (defBody s_Place_replaced) (defScope s_Place_replaced) .none kV_Place_replaced dc_Place_replaced pm_Place_replaced an_Place_replaced cd_Place_replaced ct_Place_replaced, a_straight_of := a_straight_of, d_straight_of := PySem.W.fnOf "straight_of" "straight_of" (defArgs s_straight_of) (defBody s_straight_of) (defScope s_straight_of) .none kV_straight_of dc_straight_of pm_straight_of an_straight_of cd_straight_of ct_straight_of, a_pen := a_pen, d_pen := PySem.W.fnOf "_law_pen" "_law_pen" (defArgs s_pen) (defBody s_pen) (defScope s_pen) .none kV_pen dc_pen pm_pen an_pen cd_pen ct_pen, a_draw := a_draw, d_draw := PySem.W.fnOf "_law_draw" "_law_draw" (defArgs s_draw) (defBody s_draw) (defScope s_draw) .none kV_draw dc_draw pm_draw an_draw cd_draw ct_draw, a_big := a_big, d_big := PySem.W.fnOf "_law_big" "_law_big" (defArgs s_big) (defBody s_big) (defScope s_big) .none kV_big dc_big pm_big an_big cd_big ct_big, a_between := a_between, d_between := PySem.W.fnOf "_law_between" "_law_between" (defArgs s_between) (defBody s_between) (defScope s_between) .none kV_between dc_between pm_between an_between cd_between ct_between, a_far := a_far, d_far := PySem.W.fnOf "_law_far" "_law_far" (defArgs s_far) (defBody s_far) (defScope s_far) .none kV_far dc_far pm_far an_far cd_far ct_far, a_integer := a_integer, d_integer := PySem.W.fnOf "_law_integer" "_law_integer" (defArgs s_integer) (defBody s_integer) (defScope s_integer) .none kV_integer dc_integer pm_integer an_integer cd_integer ct_integer, a_divisor := a_divisor, d_divisor := PySem.W.fnOf "_law_divisor" "_law_divisor" (defArgs s_divisor) (defBody s_divisor) (defScope s_divisor) .none kV_divisor dc_divisor pm_divisor an_divisor cd_divisor ct_divisor, a_place_due := a_place_due, d_place_due := PySem.W.fnOf "_law_place_due" "_law_place_due" (defArgs s_place_due) (defBody s_place_due) (defScope s_place_due) .none kV_place_due dc_place_due pm_place_due an_place_due cd_place_due ct_place_due, a_refused_divisor := a_refused_divisor, d_refused_divisor := PySem.W.fnOf "_law_refused_divisor" "_law_refused_divisor" (defArgs s_refused_divisor) (defBody s_refused_divisor) (defScope s_refused_divisor) .none kV_refused_divisor dc_refused_divisor pm_refused_divisor an_refused_divisor cd_refused_divisor ct_refused_divisor, a_moved_right := a_moved_right, d_moved_right := PySem.W.fnOf "_law_moved_right" "_law_moved_right" (defArgs s_moved_right) (defBody s_moved_right) (defScope s_moved_right) .none kV_moved_right dc_moved_right pm_moved_right an_moved_right cd_moved_right ct_moved_right, a_place_right := a_place_right, d_place_right := PySem.W.fnOf "_law_place_right" "_law_place_right" (defArgs s_place_right) (defBody s_place_right) (defScope s_place_right) .none kV_place_right dc_place_right pm_place_right an_place_right cd_place_right ct_place_right, a_law := a_law, d_law := PySem.W.fnOf "law" "law" (defArgs s_law) (defBody s_law) (defScope s_law) .none kV_law dc_law pm_law an_law cd_law ct_law, C_LoopError := C_LoopError, C_BadNumber := C_BadNumber, a_BadNumber_init := a_BadNumber_init, C_Straight := C_Straight, C_Place := C_Place } := {
    F_common_divisor := fun_mk (st := s_common_divisor) l_common_divisor c_common_divisor k_common_divisor,
    b_common_divisor := (fun_mk (st := s_common_divisor) l_common_divisor c_common_divisor k_common_divisor).binds (ps := ["a", "b"]) fun _ _ _ _ _ _ us hl => match us, hl with | [_, _], _ => rfl,
    g_common_divisor := PySem.W.mg_of X G n_common_divisor,
    F_Straight_init := fun_mk (st := s_Straight_init) l_Straight_init c_Straight_init k_Straight_init,
    b_Straight_init := (fun_mk (st := s_Straight_init) l_Straight_init c_Straight_init k_Straight_init).binds (ps := ["self", "i", "n", "one"]) fun _ _ _ _ _ _ us hl => match us, hl with | [_, _, _, _], _ => rfl,
    at_Straight_init := n_Straight_init,
    i_Straight_init := i_Straight_init,
    F_Straight_call := fun_mk (st := s_Straight_call) l_Straight_call c_Straight_call k_Straight_call,
    b_Straight_call := (fun_mk (st := s_Straight_call) l_Straight_call c_Straight_call k_Straight_call).binds (ps := ["self", "i", "n"]) fun _ _ _ _ _ _ us hl => match us, hl with | [_, _, _], _ => rfl,
    at_Straight_call := n_Straight_call,
    i_Straight_call := i_Straight_call,
    c_Straight_call := ⟨n_Straight_call, i_Straight_call, fi_Straight_call⟩,
    F_Straight_eq := fun_mk (st := s_Straight_eq) l_Straight_eq c_Straight_eq k_Straight_eq,
    b_Straight_eq := (fun_mk (st := s_Straight_eq) l_Straight_eq c_Straight_eq k_Straight_eq).binds (ps := ["self", "other"]) fun _ _ _ _ _ _ us hl => match us, hl with | [_, _], _ => rfl,
    at_Straight_eq := n_Straight_eq,
    i_Straight_eq := i_Straight_eq,
    F_Straight_add := fun_mk (st := s_Straight_add) l_Straight_add c_Straight_add k_Straight_add,
    b_Straight_add := (fun_mk (st := s_Straight_add) l_Straight_add c_Straight_add k_Straight_add).binds (ps := ["self", "other"]) fun _ _ _ _ _ _ us hl => match us, hl with | [_, _], _ => rfl,
    at_Straight_add := n_Straight_add,
    i_Straight_add := i_Straight_add,
    F_Straight_mul := fun_mk (st := s_Straight_mul) l_Straight_mul c_Straight_mul k_Straight_mul,
    b_Straight_mul := (fun_mk (st := s_Straight_mul) l_Straight_mul c_Straight_mul k_Straight_mul).binds (ps := ["self", "factor"]) fun _ _ _ _ _ _ us hl => match us, hl with | [_, _], _ => rfl,
    at_Straight_mul := n_Straight_mul,
    i_Straight_mul := i_Straight_mul,
    F_Straight_rmul := fun_mk (st := s_Straight_rmul) l_Straight_rmul c_Straight_rmul k_Straight_rmul,
    b_Straight_rmul := (fun_mk (st := s_Straight_rmul) l_Straight_rmul c_Straight_rmul k_Straight_rmul).binds (ps := ["self", "factor"]) fun _ _ _ _ _ _ us hl => match us, hl with | [_, _], _ => rfl,
    at_Straight_rmul := n_Straight_rmul,
    i_Straight_rmul := i_Straight_rmul,
    F_Straight_floordiv := fun_mk (st := s_Straight_floordiv) l_Straight_floordiv c_Straight_floordiv k_Straight_floordiv,
    b_Straight_floordiv := (fun_mk (st := s_Straight_floordiv) l_Straight_floordiv c_Straight_floordiv k_Straight_floordiv).binds (ps := ["self", "divisor"]) fun _ _ _ _ _ _ us hl => match us, hl with | [_, _], _ => rfl,
    at_Straight_floordiv := n_Straight_floordiv,
    i_Straight_floordiv := i_Straight_floordiv,
    F_Straight_replaced := fun_mk (st := s_Straight_replaced) l_Straight_replaced c_Straight_replaced k_Straight_replaced,
    b_Straight_replaced := (fun_mk (st := s_Straight_replaced) l_Straight_replaced c_Straight_replaced k_Straight_replaced).binds (ps := ["self", "factor", "shift"]) fun _ _ _ _ _ _ us hl => match us, hl with | [_, _, _], _ => rfl,
    at_Straight_replaced := n_Straight_replaced,
    i_Straight_replaced := i_Straight_replaced,
    m_Straight_replaced := ⟨n_Straight_replaced, i_Straight_replaced, k_Straight_replaced⟩,
    F_Place_init := fun_mk (st := s_Place_init) l_Place_init c_Place_init k_Place_init,
    b_Place_init := (fun_mk (st := s_Place_init) l_Place_init c_Place_init k_Place_init).binds (ps := ["self", "straight", "divisor"]) fun _ _ _ _ _ _ us hl => match us, hl with | [_, _, _], _ => rfl,
    at_Place_init := n_Place_init,
    i_Place_init := i_Place_init,
    F_Place_call := fun_mk (st := s_Place_call) l_Place_call c_Place_call k_Place_call,
    b_Place_call := (fun_mk (st := s_Place_call) l_Place_call c_Place_call k_Place_call).binds (ps := ["self", "i", "n"]) fun _ _ _ _ _ _ us hl => match us, hl with | [_, _, _], _ => rfl,
    at_Place_call := n_Place_call,
    i_Place_call := i_Place_call,
    c_Place_call := ⟨n_Place_call, i_Place_call, fi_Place_call⟩,
    F_Place_eq := fun_mk (st := s_Place_eq) l_Place_eq c_Place_eq k_Place_eq,
    b_Place_eq := (fun_mk (st := s_Place_eq) l_Place_eq c_Place_eq k_Place_eq).binds (ps := ["self", "other"]) fun _ _ _ _ _ _ us hl => match us, hl with | [_, _], _ => rfl,
    at_Place_eq := n_Place_eq,
    i_Place_eq := i_Place_eq,
    F_Place_replaced := fun_mk (st := s_Place_replaced) l_Place_replaced c_Place_replaced k_Place_replaced,
    b_Place_replaced := (fun_mk (st := s_Place_replaced) l_Place_replaced c_Place_replaced k_Place_replaced).binds (ps := ["self", "factor", "shift"]) fun _ _ _ _ _ _ us hl => match us, hl with | [_, _, _], _ => rfl,
    at_Place_replaced := n_Place_replaced,
    i_Place_replaced := i_Place_replaced,
    m_Place_replaced := ⟨n_Place_replaced, i_Place_replaced, k_Place_replaced⟩,
    F_straight_of := fun_mk (st := s_straight_of) l_straight_of c_straight_of k_straight_of,
    b_straight_of := (fun_mk (st := s_straight_of) l_straight_of c_straight_of k_straight_of).binds (ps := ["value"]) fun _ _ _ _ _ _ us hl => match us, hl with | [_], _ => rfl,
    g_straight_of := PySem.W.mg_of X G n_straight_of,
    F_pen := fun_mk (st := s_pen) l_pen c_pen k_pen,
    b_pen := (fun_mk (st := s_pen) l_pen c_pen k_pen).binds (ps := ["_law_script"]) fun _ _ _ _ _ _ us hl => match us, hl with | [_], _ => rfl,
    g_pen := PySem.W.mg_of X G n_pen,
    F_draw := fun_mk (st := s_draw) l_draw c_draw k_draw,
    b_draw := (fun_mk (st := s_draw) l_draw c_draw k_draw).binds (ps := ["_law_pen_here", "_law_many"]) fun _ _ _ _ _ _ us hl => match us, hl with | [_, _], _ => rfl,
    g_draw := PySem.W.mg_of X G n_draw,
    F_big := fun_mk (st := s_big) l_big c_big k_big,
    b_big := (fun_mk (st := s_big) l_big c_big k_big).binds (ps := ["_law_pen_here", "_law_many"]) fun _ _ _ _ _ _ us hl => match us, hl with | [_, _], _ => rfl,
    g_big := PySem.W.mg_of X G n_big,
    F_between := fun_mk (st := s_between) l_between c_between k_between,
    b_between := (fun_mk (st := s_between) l_between c_between k_between).binds (ps := ["_law_pen_here", "_law_least", "_law_most"]) fun _ _ _ _ _ _ us hl => match us, hl with | [_, _, _], _ => rfl,
    g_between := PySem.W.mg_of X G n_between,
    F_far := fun_mk (st := s_far) l_far c_far k_far,
    b_far := (fun_mk (st := s_far) l_far c_far k_far).binds (ps := ["_law_pen_here"]) fun _ _ _ _ _ _ us hl => match us, hl with | [_], _ => rfl,
    g_far := PySem.W.mg_of X G n_far,
    F_integer := fun_mk (st := s_integer) l_integer c_integer k_integer,
    b_integer := (fun_mk (st := s_integer) l_integer c_integer k_integer).binds (ps := ["_law_value"]) fun _ _ _ _ _ _ us hl => match us, hl with | [_], _ => rfl,
    g_integer := PySem.W.mg_of X G n_integer,
    F_divisor := fun_mk (st := s_divisor) l_divisor c_divisor k_divisor,
    b_divisor := (fun_mk (st := s_divisor) l_divisor c_divisor k_divisor).binds (ps := ["_law_a", "_law_b"]) fun _ _ _ _ _ _ us hl => match us, hl with | [_, _], _ => rfl,
    g_divisor := PySem.W.mg_of X G n_divisor,
    F_place_due := fun_mk (st := s_place_due) l_place_due c_place_due k_place_due,
    b_place_due := (fun_mk (st := s_place_due) l_place_due c_place_due k_place_due).binds (ps := ["_law_row"]) fun _ _ _ _ _ _ us hl => match us, hl with | [_], _ => rfl,
    g_place_due := PySem.W.mg_of X G n_place_due,
    F_refused_divisor := fun_mk (st := s_refused_divisor) l_refused_divisor c_refused_divisor k_refused_divisor,
    b_refused_divisor := (fun_mk (st := s_refused_divisor) l_refused_divisor c_refused_divisor k_refused_divisor).binds (ps := ["_law_number", "_law_way"]) fun _ _ _ _ _ _ us hl => match us, hl with | [_, _], _ => rfl,
    g_refused_divisor := PySem.W.mg_of X G n_refused_divisor,
    F_moved_right := fun_mk (st := s_moved_right) l_moved_right c_moved_right k_moved_right,
    b_moved_right := (fun_mk (st := s_moved_right) l_moved_right c_moved_right k_moved_right).binds (ps := ["_law_pen_here", "_law_row", "_law_place"]) fun _ _ _ _ _ _ us hl => match us, hl with | [_, _, _], _ => rfl,
    g_moved_right := PySem.W.mg_of X G n_moved_right,
    F_place_right := fun_mk (st := s_place_right) l_place_right c_place_right k_place_right,
    b_place_right := (fun_mk (st := s_place_right) l_place_right c_place_right k_place_right).binds (ps := ["_law_pen_here"]) fun _ _ _ _ _ _ us hl => match us, hl with | [_], _ => rfl,
    g_place_right := PySem.W.mg_of X G n_place_right,
    F_law := fun_mk (st := s_law) l_law c_law k_law,
    b_law := (fun_mk (st := s_law) l_law c_law k_law).binds (ps := ["_law_script"]) fun _ _ _ _ _ _ us hl => match us, hl with | [_], _ => rfl,
    g_law := PySem.W.mg_of X G n_law,
    g_LoopError := PySem.W.mg_of X G n_LoopError,
    g_BadNumber := PySem.W.mg_of X G n_BadNumber,
    e_BadNumber := { gC := PySem.W.mg_of X G n_BadNumber, cls := ⟨_, _, _, _, _, _, _, _, _, _, _, _, _, _, _, xl_BadNumber, rb_BadNumber⟩, sa := sa_BadNumber, noF := List.forall_mem_cons.mpr ⟨nf_BadNumber_what, List.forall_mem_cons.mpr ⟨nf_BadNumber_number, List.forall_mem_nil _⟩⟩, iC := n_BadNumber_init, tC := tf_BadNumber, kC := kc_BadNumber, exC := ex_BadNumber, veC := ve_BadNumber, tyC := ty_BadNumber, sup := sup_, opq := opq_, spI := sp_BadNumber, mrC := mr_BadNumber, top := (by kernel_rfl), fn := ⟨_, _, _, _, s_BadNumber_init, _, _, _, _, _, _, _, _, _, _, _, _, _, _, _, _, _, [], l_BadNumber, c_BadNumber, hc_BadNumber, hv_BadNumber, hf_BadNumber, hl_BadNumber, sup_BadNumber, rfl, rfl, fun us hl => match us, hl with | [_, _, _], _ => rfl, by decide +kernel, by decide +kernel, by decide +kernel, rfl, by decide +kernel, rfl, rfl, by decide +kernel, by decide +kernel⟩ },
    x_BadNumber := ⟨ga_BadNumber, gg_BadNumber, ex_BadNumber, hd_BadNumber⟩,
    te_BadNumber := te_BadNumber,
    g_Straight := PySem.W.mg_of X G n_Straight,
    cl_Straight := ⟨pg_Straight, hd_Straight, po_Straight, sa_Straight⟩,
    mk_Straight := ⟨mk_Straight, n_Straight_init, i_Straight_init, kc_Straight⟩,
    na_Straight_i := na_Straight_i,
    na_Straight_n := na_Straight_n,
    na_Straight_one := na_Straight_one,
    ca_Straight := ca_Straight,
    mo_Straight := mo_Straight,
    g_Place := PySem.W.mg_of X G n_Place,
    cl_Place := ⟨pg_Place, hd_Place, po_Place, sa_Place⟩,
    mk_Place := ⟨mk_Place, n_Place_init, i_Place_init, kc_Place⟩,
    na_Place_straight := na_Place_straight,
    na_Place_divisor := na_Place_divisor,
    ca_Place := ca_Place,
    mo_Place := mo_Place,
    cg := cg,
    ct := ct,
    o_Straight_floordiv := ⟨n_Straight_floordiv, i_Straight_floordiv, sf_Straight, ⟨_, or_Straight_floordiv, og_Straight_floordiv⟩, ⟨_, of_Straight_floordiv⟩, ⟨_, oi_Straight_floordiv⟩, os_Straight⟩,
    o_Straight_add := ⟨n_Straight_add, i_Straight_add, sf_Straight, ⟨_, or_Straight_add, og_Straight_add⟩, ⟨_, of_Straight_add⟩, ⟨_, oi_Straight_add⟩, os_Straight⟩,
    o_Straight_rmul := ⟨n_Straight_mul, n_Straight_rmul, i_Straight_rmul, sf_Straight, ob_Straight, trivial⟩,
    o_Straight_mul := ⟨n_Straight_mul, i_Straight_mul, sf_Straight, ⟨_, or_Straight_mul, og_Straight_mul⟩, ⟨_, of_Straight_mul⟩, ⟨_, oi_Straight_mul⟩, os_Straight⟩,
    ki_S_S := ki_S_S,
    ki_P_S := ki_P_S,
    ki_int_S := ki_int_S,
    ki_P_P := ki_P_P,
    ki_S_P := ki_S_P,
    ki_int_P := ki_int_P,
    ki_str_P := ki_str_P,
    nf_S_P := nf_S_P,
    nf_P_S := nf_P_S,
    nf_P_int := nf_P_int,
    nf_P_str := nf_P_str,
    n_abs := PySem.W.mg_none_of X G n_abs,
    n_bool := PySem.W.mg_none_of X G n_bool,
    n_int := PySem.W.mg_none_of X G n_int,
    n_isinstance := PySem.W.mg_none_of X G n_isinstance,
    n_len := PySem.W.mg_none_of X G n_len,
    n_list := PySem.W.mg_none_of X G n_list,
    n_max := PySem.W.mg_none_of X G n_max,
    n_min := PySem.W.mg_none_of X G n_min,
    n_range := PySem.W.mg_none_of X G n_range,
    n_str := PySem.W.mg_none_of X G n_str }
  exact ⟨_, fun s v => .of_eq rfl, fun base _ _ => ok_law T⟩
theorem walk {q : Program} {loose : List Str} {XP : (Str → Option Value) → Heap → Prop} {YP : World → Heap → Prop} {d : DefRec} {K : Params → PySem.W.Frag} (hdf : d.params.defaults = [])
    (hY : ∀ (w : World) (h : Heap), YP w h → (K w.params).In h)
    (F : ∀ (w : World) (mg : Str → Option Value) (fa : Addr) (h : Heap), (K w.params).In h → h.Ns mainGlobals mg → mg d.name = some (.ref fa) →
      ∃ fd : FuncData, (∀ (s : Shared) (u : Value), BindsTo s fd ⟨[u], []⟩ [("_law_script", u)]) ∧ ∀ base : Heap, (K w.params).In base → base.Ns mainGlobals mg → FnOk PySem.Challenge.rw_loopsize_k20_places_in_least_form.prog w (K w.params) mg base CX0 9 fa fd ["_law_script"] (spLaw (K w.params))) :
    PySem.W.WalkO q loose XP YP PySem.Challenge.rw_loopsize_k20_places_in_least_form.row.toRowW d [] (fun f vs => PySem.call f vs) :=
  L2.walk_of (l := PySem.Challenge.rw_loopsize_k20_places_in_least_form) (n := 63) (k := 9) (x := "_law_script") (CX := fun _ => CX0) (sp := fun w => spLaw (K w.params)) rfl (by decide) hdf ⟨rfl, by decide, by decide⟩ hY F (fun _ _ a ns hl _ hS => ⟨a, ns, rfl, hS, fun _ => rfl⟩) fun _ _ _ _ _ z => z
end Lw
open PySem PySem.W PyProof.Rows in
set_option maxRecDepth 100000 in
set_option maxHeartbeats 0 in
theorem PySem.Challenge.cw_loopsize_k20_places_in_least_form_holds : PySem.Challenge.rw_loopsize_k20_places_in_least_form.Holds := by
  w_on; o_law; k_head; (case hw => w_witness2)
  k_fill
  refine Lw.walk rfl (fun w h Y => PySem.W.kIn_of Y) ?F
  case F =>
    intro w mg fa h KX G hmg
    refine' Lw.all_mk KX G hmg ?n_LoopError ?n_BadNumber ?n_Straight ?n_Place ?n_common_divisor ?l_common_divisor ?c_common_divisor ?k_common_divisor ?n_Straight_init ?i_Straight_init ?l_Straight_init ?c_Straight_init ?k_Straight_init ?n_Straight_call ?i_Straight_call ?fi_Straight_call ?l_Straight_call ?c_Straight_call ?k_Straight_call ?n_Straight_eq ?i_Straight_eq ?l_Straight_eq ?c_Straight_eq ?k_Straight_eq ?n_Straight_add ?i_Straight_add ?l_Straight_add ?c_Straight_add ?k_Straight_add ?n_Straight_mul ?i_Straight_mul ?l_Straight_mul ?c_Straight_mul ?k_Straight_mul ?n_Straight_rmul ?i_Straight_rmul ?l_Straight_rmul ?c_Straight_rmul ?k_Straight_rmul ?n_Straight_floordiv ?i_Straight_floordiv ?l_Straight_floordiv ?c_Straight_floordiv ?k_Straight_floordiv ?n_Straight_replaced ?i_Straight_replaced ?l_Straight_replaced ?c_Straight_replaced ?k_Straight_replaced ?n_Place_init ?i_Place_init ?l_Place_init ?c_Place_init ?k_Place_init ?n_Place_call ?i_Place_call ?fi_Place_call ?l_Place_call ?c_Place_call ?k_Place_call ?n_Place_eq ?i_Place_eq ?l_Place_eq ?c_Place_eq ?k_Place_eq ?n_Place_replaced ?i_Place_replaced ?l_Place_replaced ?c_Place_replaced ?k_Place_replaced ?n_straight_of ?l_straight_of ?c_straight_of ?k_straight_of ?n_pen ?l_pen ?c_pen ?k_pen ?n_draw ?l_draw ?c_draw ?k_draw ?n_big ?l_big ?c_big ?k_big ?n_between ?l_between ?c_between ?k_between ?n_far ?l_far ?c_far ?k_far ?n_integer ?l_integer ?c_integer ?k_integer ?n_divisor ?l_divisor ?c_divisor ?k_divisor ?n_place_due ?l_place_due ?c_place_due ?k_place_due ?n_refused_divisor ?l_refused_divisor ?c_refused_divisor ?k_refused_divisor ?n_moved_right ?l_moved_right ?c_moved_right ?k_moved_right ?n_place_right ?l_place_right ?c_place_right ?k_place_right ?n_law ?l_law ?c_law ?k_law ?xl_BadNumber ?rb_BadNumber ?sa_BadNumber ?nf_BadNumber_what ?nf_BadNumber_number ?n_BadNumber_init ?tf_BadNumber ?kc_BadNumber ?ex_BadNumber ?ve_BadNumber ?ty_BadNumber ?sp_BadNumber ?mr_BadNumber ?l_BadNumber ?c_BadNumber ?hc_BadNumber ?hv_BadNumber ?hf_BadNumber ?hl_BadNumber ?ga_BadNumber ?gg_BadNumber ?hd_BadNumber ?te_BadNumber ?pg_Straight ?hd_Straight ?po_Straight ?sa_Straight ?mk_Straight ?kc_Straight ?na_Straight_i ?na_Straight_n ?na_Straight_one ?ca_Straight ?mo_Straight ?pg_Place ?hd_Place ?po_Place ?sa_Place ?mk_Place ?kc_Place ?na_Place_straight ?na_Place_divisor ?ca_Place ?mo_Place ?cg ?ct ?sup_ ?opq_ ?sf_Straight ?os_Straight ?ob_Straight ?or_Straight_floordiv ?og_Straight_floordiv ?of_Straight_floordiv ?oi_Straight_floordiv ?or_Straight_add ?og_Straight_add ?of_Straight_add ?oi_Straight_add ?or_Straight_mul ?og_Straight_mul ?of_Straight_mul ?oi_Straight_mul ?ki_S_S ?ki_P_S ?ki_int_S ?ki_P_P ?ki_S_P ?ki_int_P ?ki_str_P ?nf_S_P ?nf_P_S ?nf_P_int ?nf_P_str ?n_abs ?n_bool ?n_int ?n_isinstance ?n_len ?n_list ?n_max ?n_min ?n_range ?n_str
    (case n_LoopError => k_is)
    (case n_BadNumber => k_is)
    (case n_Straight => k_is)
    (case n_Place => k_is)
    (case n_common_divisor => k_is)
    (case l_common_divisor => k_is)
    (case c_common_divisor => k_is)
    (case k_common_divisor => k_is)
    (case n_Straight_init => k_is)
    (case i_Straight_init => k_is)
    (case l_Straight_init => k_is)
    (case c_Straight_init => k_is)
    (case k_Straight_init => k_is)
    (case n_Straight_call => k_is)
    (case i_Straight_call => k_is)
    (case fi_Straight_call => k_is)
    (case l_Straight_call => k_is)
    (case c_Straight_call => k_is)
    (case k_Straight_call => k_is)
    (case n_Straight_eq => k_is)
    (case i_Straight_eq => k_is)
    (case l_Straight_eq => k_is)
    (case c_Straight_eq => k_is)
    (case k_Straight_eq => k_is)
    (case n_Straight_add => k_is)
    (case i_Straight_add => k_is)
    (case l_Straight_add => k_is)
    (case c_Straight_add => k_is)
    (case k_Straight_add => k_is)
    (case n_Straight_mul => k_is)
    (case i_Straight_mul => k_is)
    (case l_Straight_mul => k_is)
    (case c_Straight_mul => k_is)
    (case k_Straight_mul => k_is)
    (case n_Straight_rmul => k_is)
    (case i_Straight_rmul => k_is)
    (case l_Straight_rmul => k_is)
    (case c_Straight_rmul => k_is)
    (case k_Straight_rmul => k_is)
    (case n_Straight_floordiv => k_is)
    (case i_Straight_floordiv => k_is)
    (case l_Straight_floordiv => k_is)
    (case c_Straight_floordiv => k_is)
    (case k_Straight_floordiv => k_is)
    (case n_Straight_replaced => k_is)
    (case i_Straight_replaced => k_is)
    (case l_Straight_replaced => k_is)
    (case c_Straight_replaced => k_is)
    (case k_Straight_replaced => k_is)
    (case n_Place_init => k_is)
    (case i_Place_init => k_is)
    (case l_Place_init => k_is)
    (case c_Place_init => k_is)
    (case k_Place_init => k_is)
    (case n_Place_call => k_is)
    (case i_Place_call => k_is)
    (case fi_Place_call => k_is)
    (case l_Place_call => k_is)
    (case c_Place_call => k_is)
    (case k_Place_call => k_is)
    (case n_Place_eq => k_is)
    (case i_Place_eq => k_is)
    (case l_Place_eq => k_is)
    (case c_Place_eq => k_is)
    (case k_Place_eq => k_is)
    (case n_Place_replaced => k_is)
    (case i_Place_replaced => k_is)
    (case l_Place_replaced => k_is)
    (case c_Place_replaced => k_is)
    (case k_Place_replaced => k_is)
    (case n_straight_of => k_is)
    (case l_straight_of => k_is)
    (case c_straight_of => k_is)
    (case k_straight_of => k_is)
    (case n_pen => k_is)
    (case l_pen => k_is)
    (case c_pen => k_is)
    (case k_pen => k_is)
    (case n_draw => k_is)
    (case l_draw => k_is)
    (case c_draw => k_is)
    (case k_draw => k_is)
    (case n_big => k_is)
    (case l_big => k_is)
    (case c_big => k_is)
    (case k_big => k_is)
    (case n_between => k_is)
    (case l_between => k_is)
    (case c_between => k_is)
    (case k_between => k_is)
    (case n_far => k_is)
    (case l_far => k_is)
    (case c_far => k_is)
    (case k_far => k_is)
    (case n_integer => k_is)
    (case l_integer => k_is)
    (case c_integer => k_is)
    (case k_integer => k_is)
    (case n_divisor => k_is)
    (case l_divisor => k_is)
    (case c_divisor => k_is)
    (case k_divisor => k_is)
    (case n_place_due => k_is)
    (case l_place_due => k_is)
    (case c_place_due => k_is)
    (case k_place_due => k_is)
    (case n_refused_divisor => k_is)
    (case l_refused_divisor => k_is)
    (case c_refused_divisor => k_is)
    (case k_refused_divisor => k_is)
    (case n_moved_right => k_is)
    (case l_moved_right => k_is)
    (case c_moved_right => k_is)
    (case k_moved_right => k_is)
    (case n_place_right => k_is)
    (case l_place_right => k_is)
    (case c_place_right => k_is)
    (case k_place_right => k_is)
    (case n_law => k_is)
    (case l_law => k_is)
    (case c_law => k_is)
    (case k_law => k_is)
    (case xl_BadNumber => k_is)
    (case rb_BadNumber => decide +kernel)
    (case sa_BadNumber => k_is)
    (case nf_BadNumber_what => k_is)
    (case nf_BadNumber_number => k_is)
    (case n_BadNumber_init => k_is)
    (case tf_BadNumber => k_is)
    (case kc_BadNumber => k_is)
    (case ex_BadNumber => k_is)
    (case ve_BadNumber => k_is)
    (case ty_BadNumber => k_is)
    (case sp_BadNumber => kernel_rfl)
    (case mr_BadNumber => k_is)
    (case l_BadNumber => k_is)
    (case c_BadNumber => k_is)
    (case hc_BadNumber => k_is)
    (case hv_BadNumber => rfl)
    (case hf_BadNumber => first | rfl | decide +kernel | kernel_rfl)
    (case hl_BadNumber => k_is)
    (case ga_BadNumber => k_is)
    (case gg_BadNumber => k_is)
    (case hd_BadNumber => k_is)
    (case te_BadNumber => kernel_rfl)
    (case pg_Straight => k_is)
    (case hd_Straight => k_is)
    (case po_Straight => k_is)
    (case sa_Straight => k_is)
    (case mk_Straight => k_is)
    (case kc_Straight => k_is)
    (case na_Straight_i => k_is)
    (case na_Straight_n => k_is)
    (case na_Straight_one => k_is)
    (case ca_Straight => k_is)
    (case mo_Straight => k_is)
    (case pg_Place => k_is)
    (case hd_Place => k_is)
    (case po_Place => k_is)
    (case sa_Place => k_is)
    (case mk_Place => k_is)
    (case kc_Place => k_is)
    (case na_Place_straight => k_is)
    (case na_Place_divisor => k_is)
    (case ca_Place => k_is)
    (case mo_Place => k_is)
    (case cg => k_is)
    (case ct => k_is)
    (case sup_ => k_is)
    (case opq_ => k_is)
    (case sf_Straight => k_is)
    (case os_Straight => k_is)
    (case ob_Straight => k_is)
    (case or_Straight_floordiv => k_is)
    (case og_Straight_floordiv => first | exact .inl rfl | exact .inr ⟨_, rfl⟩)
    (case of_Straight_floordiv => k_is)
    (case oi_Straight_floordiv => k_is)
    (case or_Straight_add => k_is)
    (case og_Straight_add => first | exact .inl rfl | exact .inr ⟨_, rfl⟩)
    (case of_Straight_add => k_is)
    (case oi_Straight_add => k_is)
    (case or_Straight_mul => k_is)
    (case og_Straight_mul => first | exact .inl rfl | exact .inr ⟨_, rfl⟩)
    (case of_Straight_mul => k_is)
    (case oi_Straight_mul => k_is)
    (case ki_S_S => kernel_rfl)
    (case ki_P_S => kernel_rfl)
    (case ki_int_S => kernel_rfl)
    (case ki_P_P => kernel_rfl)
    (case ki_S_P => kernel_rfl)
    (case ki_int_P => kernel_rfl)
    (case ki_str_P => kernel_rfl)
    (case nf_S_P => k_is)
    (case nf_P_S => k_is)
    (case nf_P_int => k_is)
    (case nf_P_str => k_is)
    (case n_abs => k_is)
    (case n_bool => k_is)
    (case n_int => k_is)
    (case n_isinstance => k_is)
    (case n_len => k_is)
    (case n_list => k_is)
    (case n_max => k_is)
    (case n_min => k_is)
    (case n_range => k_is)
    (case n_str => k_is)
#print axioms PySem.Challenge.cw_loopsize_k20_places_in_least_form_holds
